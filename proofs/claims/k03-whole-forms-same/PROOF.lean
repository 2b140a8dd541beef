import PyProof.Rows.All
import Wide.All
import OpenK.AllK
import Wide.FinOn
import KE.KSortKey
import KE.SortKeyHeap
import HandS.ForMost
import HandS.Lambda
import HandS.Exc
import HandS.Defaults
import HandS.Codes
import HandS.IsInst
import HandS.DictComp
import HandS.Deep
import HandS.HeadHook1
import HandS.HeadHook2
import HandS.HeadHook3
import HandS.HeadHook4
import HandS.Walk
import HandS.Text
import KE.KStateDown
import Lean
import HandS.Head0
import HandS.Head1
import HandS.Head2
import HandS.HeadEnd
import HandS.HeadWalk
import PySem.Challenge.RW_turnskept_k03_whole_forms_say_same_but_f
import HandS.TupAny
import HandS.NestedK
set_option Elab.async false
set_option linter.all false
set_option maxRecDepth 100000
set_option maxHeartbeats 0
/-! sorted(e, key=lambda x: ..): a rule over the hand layer, for a lambda of one parameter and no captured name. -/
namespace LK
open PySem PySem.Spec PyProof.Rows L2 LamX

/-! ### a lambda that stands at f, called -/
theorem lam_run {P : Program} {w : World} {K : PySem.W.Frag} {mg : Str → Option Value} {base : Heap} {k : Nat} {f c' : Addr} {qual : Str} {params : Arguments} {body : Expr} {scope : Scope} {pm ctv : Value} {N ps : List Str}
    {A : Around} {outer : List Env} {s : Shared} {H : Hp} {us : List Value} {vs : List V} {Q : VK} {t : TE}
    (hf : s.heap.get? f = some (PySem.W.kla_obj "<lambda>" qual params body scope [] pm c' ctv)) (hco : H c' = some (CodeO c' qual))
    (S : FnScope N ps scope) (hr : Room (k + 1) A) (e0 : Env0 P w K mg base A outer s H)
    (hbind : bindArgs (PySem.W.kla_fn "<lambda>" qual params body scope [] pm (.ref c') ctv) ⟨us, []⟩ = pure (ps.zip us))
    (r : Vals vs us) (hl : vs.length = ps.length)
    (hb : Room k (A.deeper (envOfC qual scope s.heap.objs.size f (.ref c'))) → PE (cxOf L2.CX0 P w K mg base N qual scope f (.ref c') A outer s H L2.E0) body t) (hq : t (L2.start N vs) H Q) :
    codeAny (model P w) A (.call (.ref f) ⟨us, []⟩) (CR L2.CX0 outer P w H s Q L2.E0) s := by
  have lim : s.heap.NoLimit := e0.mod.nolimit.keeps fun b o e => (e0.bs b o e).1
  have hkind : ∀ y ∈ ps.zip us, scope.names.lookup y.1 = some .local ∨ (scope.names.lookup y.1 = some .cell ∧ ((cellsFrom (s.heap.objs.size + 1) scope.names []).lookup y.1).isSome = true) := fun ⟨n, v⟩ hy => by
    rcases S.par n (List.of_mem_zip hy).1 with q | q
    · exact .inl q
    · exact .inr ⟨q, PySem.W.cellsFrom_some _ _ _ (.inl q)⟩
  obtain ⟨⟨oc, ws, tq, hoc, hdc, hvc⟩, _, _⟩ := e0.hok c' _ hco
  refine PySem.W.kla_callFunE hr.depth hf rfl S.co S.gen rfl ⟨c', oc, ws, tq, rfl, hoc, hdc, hvc⟩ ?_
  rw [hbind]
  refine wpAny_pure (wpAny_newFunctionEnv_cells S.kind hkind fun env he s1 x => ?_)
  subst he
  refine ⟨lim.keeps x.toInCall.keep, ?_⟩
  have I : Inv (cxOf L2.CX0 P w K mg base N qual scope f (.ref c') A outer s H L2.E0) [] (L2.start N vs) H s1 := inv_start S hr.hd e0 hl r x
  refine PySem.W.kla_codeExpr (wpAny_mono ((hb (hr.deeper _)).run [] s1 (L2.start N vs) H Q I hq) (fun v s' h' => ?_) fun e s' h' => h')
  obtain ⟨v', H', J, rv, q⟩ := h'
  exact ⟨v', H', J.os, J.bare, J.base, J.hok, rv, q⟩

/-! ### keys -/
def flatD : V → Option PyData
  | .int i => some (.int i)
  | .str x => some (.str x)
  | .bl b => some (.bool b)
  | _ => none
/-- a key: an int, a bool, a text, or a tuple of such -/
def KeyAt (H : Hp) (v : V) (d : PyData) : Prop := flatD v = some d ∨ ∃ t vs ds, v = .ref t ∧ H t = some (.tup vs) ∧ vs.map flatD = ds.map some ∧ d = .tuple ds
theorem flatD_dp {K : PySem.W.Frag} {H : Hp} : ∀ {v : V} {d : PyData}, flatD v = some d → Dp K H v d
  | .int i, _, h => by cases h; exact .int i
  | .str x, _, h => by cases h; exact .str x
  | .bl b, _, h => by cases h; exact .bl b
  | .non, _, h => by cases h
  | .byt _, _, h => by cases h
  | .flt _, _, h => by cases h
  | .ref _, _, h => by cases h
  | .ty _, _, h => by cases h
theorem flatD_all {K : PySem.W.Frag} {H : Hp} : ∀ {vs : List V} {ds : List PyData}, vs.map flatD = ds.map some → DpAll K H vs ds
  | [], [], _ => .nil
  | [], _ :: _, h => by cases h
  | _ :: _, [], h => by cases h
  | v :: vs, d :: ds, h => by
    simp only [List.map_cons, List.cons.injEq] at h
    exact .cons (flatD_dp h.1) (flatD_all h.2)
theorem KeyAt.dp {K : PySem.W.Frag} {H : Hp} {v : V} {d : PyData} (h : KeyAt H v d) : Dp K H v d := by
  rcases h with h | ⟨t, vs, ds, rfl, ht, e, rfl⟩
  · exact flatD_dp h
  · exact .tup (SqT.of ht) (flatD_all e)
theorem KeyAt.tups {H H' : Hp} {v : V} {d : PyData} (h : KeyAt H v d) (k : ∀ b xs, H b = some (.tup xs) → H' b = some (.tup xs)) : KeyAt H' v d := by
  rcases h with h | ⟨t, vs, ds, rfl, ht, e, rfl⟩
  · exact .inl h
  · exact .inr ⟨t, vs, ds, rfl, k _ _ ht, e, rfl⟩

/-! ### the rule -/
/-- what the lambda's calls and the order do: bs the items as data, val their values, key their keys, W a word of the turn and the heap -/
def SortG (K : PySem.W.Frag) (T : List (Addr × Str)) (q : Str) (Nl : List Str) (tb : TE) (Q : VK) (x : V) (H1 : Hp) : Prop := ∃ (l : Addr) (β : Type) (bs : List β) (val : β → V) (key : β → PyData),
  x = .ref l ∧ SqL K H1 l (bs.map val) ∧ Tabs T H1 ∧ PySem.W.AllAlike (bs.map key) ∧ PySem.W.Sortable (bs.map key) ∧ (∀ b ∈ bs, (key b).depth ≤ 2) ∧ ∀ (c' : Addr) H2, ExtN H1 H2 → Tabs T H2 → H2 c' = some (CodeO c' q) →
    ∃ W : Nat → Hp → Prop, W 0 H2 ∧ (∀ i H3, W i H3 → H3 c' = some (CodeO c' q)) ∧
      (∀ i b H3, bs[i]? = some b → W i H3 → tb (L2.start Nl [val b]) H3 fun v H4 => KeyAt H4 v (key b) ∧ W (i + 1) H4) ∧
      ∀ H3, W bs.length H3 → ∀ p, H3 p = none → Q (.ref p) (upd H3 p (.lst ((bs.mergeSort (PySem.W.dataLe false key)).map val)))
def tSortL (K : PySem.W.Frag) (T : List (Addr × Str)) (q : Str) (Nl : List Str) (te tb : TE) : TE := fun σ H Q => te σ H (SortG K T q Nl tb Q)

theorem each_vals {β : Type} {val : β → V} : ∀ {us : List Value} {bs : List β}, PySem.W.EachIs (fun u b => RelV (val b) u) us bs → Vals (bs.map val) us
  | _, _, .nil => .nil
  | _, _, .cons h t => .cons h (each_vals t)
theorem vals_each {β : Type} {val : β → V} : ∀ {us : List Value} {bs : List β}, Vals (bs.map val) us → PySem.W.EachIs (fun u b => RelV (val b) u) us bs
  | [], [], _ => .nil
  | _ :: _, [], h => by cases h
  | [], _ :: _, h => by cases h
  | _ :: _, _ :: _, h => by
    cases h with
    | cons h1 h2 => exact .cons h1 (vals_each h2)
theorem keys_reads {X : Cx} {pins : List (Addr × Obj)} {σ : L2.St} {H : Hp} {s : Shared} (I : Inv X pins σ H s) : ∀ {kv : List V} {us : List Value} {ds : List PyData}, Vals kv us → PySem.W.EachIs (KeyAt H) kv ds → PySem.W.EachIs (fun v d => ∃ as, Reads s.heap v d as) us ds
  | [], _, _, .nil, e => by cases e; exact .nil
  | _ :: _, _, _, .cons r rs, e => by
    cases e with
    | cons h t => exact .cons (Dp.reads I _ _ _ h.dp r) (keys_reads I rs t)

section
variable {X : Cx} {pins : List (Addr × Obj)} {σ : L2.St} {H : Hp} {s : Shared}
theorem Inv.nostk (I : Inv X pins σ H s) {b : Addr} (h : s.heap.objs.size ≤ b) : b ∉ frs X.stack := fun z => by
  rcases List.mem_cons.mp (I.stkSub _ z) with e | e
  · have h1 := I.lt
    rw [← e] at h1
    exact Nat.lt_irrefl _ (Nat.lt_of_lt_of_le h1 h)
  · exact I.nofs h e
/-- an object made behind s is free to turn -/
theorem Inv.freeAt (I : Inv X pins σ H s) {b : Addr} (h : s.heap.objs.size ≤ b) : (b ∈ X.ex ∨ X.s_0.heap.objs.size ≤ b) ∧ b ≠ X.env.locals ∧ (∀ x c, X.env.cells.lookup x = some c → c ≠ b) ∧ ∀ p ∈ X.pn ++ pins, p.1 ≠ b := by
  refine ⟨.inr (Nat.le_trans I.sz h), Nat.ne_of_gt (Nat.lt_of_lt_of_le I.lt h), fun x c e z => ?_, fun p hp z => ?_⟩
  · obtain ⟨v, o, ho, _⟩ := I.cell x c e
    rw [z] at ho
    exact Nat.lt_irrefl _ (Nat.lt_of_lt_of_le (Heap.lt_size ho) h)
  · have ho := (I.pin p hp).1
    rw [z] at ho
    exact Nat.lt_irrefl _ (Nat.lt_of_lt_of_le (Heap.lt_size ho) h)
/-- the untracked objects at ch have turned; that at a, one of them, is from now on known to be a list -/
theorem Inv.grab {a : Addr} {ys : List V} {its : List Value} {n : Nat} {ch : List Addr} {h' : Heap} {t' : Nat} (I : Inv X pins σ H s) (ha : a ∈ ch)
    (hch : ∀ b ∈ ch, (b ∈ X.ex ∨ X.s_0.heap.objs.size ≤ b) ∧ b ≠ X.env.locals ∧ (∀ x c, X.env.cells.lookup x = some c → c ≠ b) ∧ ∀ p ∈ X.pn ++ pins, p.1 ≠ b) (hn : ∀ b ∈ ch, H b = none)
    (k : ∀ b o, b ∉ ch → s.heap.get? b = some o → h'.get? b = some o) (hz : ys.length ≤ sizeLine) (r : Vals ys its) (hget : h'.get? a = some { cls := .type "list", data := .seq its.toArray n }) :
    Inv X pins σ (upd H a (.lst ys)) { s with heap := h', toks := t' } := by
  have nb : ∀ b u, H b = some u → b ∉ ch := fun b u e z => by
    rw [hn b z] at e
    cases e
  have ne : ∀ b u, H b = some u → b ≠ a := fun b u e z => nb b u e (by rw [z]; exact ha)
  refine I.step (g' := s.gens) (d' := s.drawn) (ch := ch) hch (fun b o _ _ hc e _ => k b o hc e) (fun b o _ _ hc e _ => ⟨o.slots, k b o hc e⟩) (fun b o hc e n => ?_) (fun b o hc e => ⟨o, k b o hc e⟩)
    (fun b xs e => by rw [upd_ne (ne b _ e)]; exact e) (fun b o u e => by rw [upd_ne (ne b _ e)]; exact e) (fun b ps e => ⟨#[], by rw [upd_ne (ne b _ e), e]; simp⟩) (fun m hm => ?_) (fun b u e => ?_) I.bare
  · rw [upd_ne (fun z => hc (by rw [z]; exact ha))]
    exact n
  · obtain ⟨o, es, ep, ho, q⟩ := hm
    exact ⟨o, es, ep, k _ o (fun z => (hch _ z).2.1 rfl) ho, q⟩
  · by_cases hb : b = a
    · rw [hb, upd_same] at e
      cases e
      rw [hb]
      exact ⟨hz, its, n, r, hget⟩
    · rw [upd_ne hb] at e
      refine (I.hok b u e).stay (fun c w hc q => k c w ?_ q) (fun c q => by rw [upd_ne (ne c _ q)]; exact q) fun c xs q => by rw [upd_ne (ne c _ q)]; exact q
      rcases hc with z | z
      · rw [z]
        exact nb b u e
      · exact nb c _ z
end

section
variable {X : Cx}
theorem sorted_lam {pins : List (Addr × Obj)} {σ : L2.St} {H : Hp} {s : Shared} {l f c' : Addr} {q : Str} {params : Arguments} {body : Expr} {scope : Scope} {pm ctv : Value} {a0 : Str} {Nl : List Str} {k : Nat} {tb : TE} {Q : VK} {E : Value → Shared → Prop}
    {β : Type} {bs : List β} {val : β → V} {key : β → PyData} (I : Inv X pins σ H s) (hl : SqL X.K H l (bs.map val))
    (hf : s.heap.get? f = some (PySem.W.kla_obj "<lambda>" q params body scope [] pm c' ctv)) (hfn : H f = none) (hfr : f ∉ frs X.stack) (S : FnScope Nl [a0] scope) (hr : Room (k + 3) X.A)
    (hbind : ∀ u : Value, bindArgs (PySem.W.kla_fn "<lambda>" q params body scope [] pm (.ref c') ctv) ⟨[u], []⟩ = pure [(a0, u)])
    (hbody : ∀ (A : Around) (outer : List Env) (s : Shared) (H : Hp), Room k (A.deeper (envOfC q scope s.heap.objs.size f (.ref c'))) → PE (cxOf L2.CX0 X.prog X.w X.K X.mg X.base Nl q scope f (.ref c') A outer s H L2.E0) body tb)
    (hal : PySem.W.AllAlike (bs.map key)) (hsk : PySem.W.Sortable (bs.map key)) (hdp : ∀ b ∈ bs, (key b).depth ≤ 2) {W : Nat → Hp → Prop} (w0 : W 0 H) (wc : ∀ i H3, W i H3 → H3 c' = some (CodeO c' q))
    (step : ∀ i b H3, bs[i]? = some b → W i H3 → tb (L2.start Nl [val b]) H3 fun v H4 => KeyAt H4 v (key b) ∧ W (i + 1) H4)
    (fin : ∀ H3, W bs.length H3 → ∀ p, H3 p = none → Q (.ref p) (upd H3 p (.lst ((bs.mergeSort (PySem.W.dataLe false key)).map val)))) :
    wpAny (model X.prog X.w) X.A (call (.builtin "sorted") [.ref l] [(Str.ofString "key", .ref f)]) (EP X pins σ Q) E s := by
  obtain ⟨its, rv, pl, hzl⟩ := I.list hl
  have hev := vals_each rv
  have hlen : its.length = bs.length := hev.length
  have hZ : its.length ≤ sizeLine := by
    rw [hlen]
    rw [List.length_map] at hzl
    exact hzl
  have hu0 := hr.units
  refine PySem.W.sorted_of_sort pl.isList hZ (PyProof.Rows.ksk_s1 _ _) (fun _ => PyProof.Rows.ksk_l1 _ _) fun E' => ?_
  rw [PyProof.Rows.ksk_t1]
  obtain ⟨a, ea⟩ : ∃ a, a = s.heap.objs.size + 1 := ⟨_, rfl⟩
  have ho : (PySem.W.copyHeap s.heap its).get? a = some (PyProof.Rows.seqObj "list" its.toArray 0) := by
    rw [ea]
    exact PySem.W.copyHeap_at s.heap its
  rw [← ea]
  obtain ⟨e1, ho1⟩ : ∃ e1, ((PySem.W.copyHeap s.heap its).update a (Obj.mapSeq fun _ => (#[] : Array Value))).get? a = some (PyProof.Rows.seqObj "list" #[] e1) := ⟨_, PyProof.Rows.get?_update_seq ho fun _ => #[]⟩
  obtain ⟨kS, ekS⟩ : ∃ kS, kS = (((PySem.W.copyHeap s.heap its).update a (Obj.mapSeq fun _ => (#[] : Array Value))).push (PyProof.Rows.seqObj "tuple" its.toArray 0)).objs.size := ⟨_, rfl⟩
  have ha : s.heap.objs.size ≤ a := by omega
  have hak : a < kS := by
    rw [ekS]
    rw [PyProof.Rows.size_push']
    exact Nat.lt_succ_of_lt (Heap.lt_size ho1)
  have hks : s.heap.objs.size ≤ kS := by omega
  unfold PyProof.Rows.ksk_tree
  refine wpAny_bind (PyProof.Rows.listItems_at ho rfl ?_)
  refine wpAny_bind (PyProof.Rows.listUpdate_at ho rfl ?_ (by rw [List.size_toArray]; exact hZ) (Nat.zero_le _))
  refine wpAny_bind (PyProof.Rows.seqEpoch_at ho1 rfl ?_)
  refine wpAny_bind (wpAny_newTuple ?_ (by show its.length ≤ _; exact hZ))
  refine wpAny_bind (wpAny_newList ?_ (Nat.zero_le _))
  refine wpAny_holding ?_
  obtain ⟨h3, eh3⟩ : ∃ h3, h3 = (((PySem.W.copyHeap s.heap its).update a (Obj.mapSeq fun _ => (#[] : Array Value))).push (PyProof.Rows.seqObj "tuple" its.toArray 0)).push (PyProof.Rows.seqObj "list" #[] 0) := ⟨_, rfl⟩
  have old3 : ∀ b o, s.heap.get? b = some o → h3.get? b = some o := fun b o e => by
    rw [eh3]
    have e2 := PySem.W.sorting_copy_old (vs := its) e
    rw [← ea] at e2
    exact e2
  have na0 : h3.get? a = some (PyProof.Rows.seqObj "list" #[] e1) := by
    rw [eh3]
    exact Heap.get?_push_of_some _ (Heap.get?_push_of_some _ ho1)
  have nk0 : h3.get? kS = some (PyProof.Rows.seqObj "list" #[] 0) := by
    rw [eh3, ekS]
    exact Heap.get?_push_size _ rfl
  rw [← ekS, ← eh3]
  have fA := Inv.freeAt I ha
  have fK := Inv.freeAt I hks
  have sA := Inv.nostk I ha
  have sK := Inv.nostk I hks
  have I3 : L2.Inv X pins σ H { s with heap := h3 } := I.kept (t' := s.toks) old3
  have hff := old3 _ _ hf
  unfold PyProof.Rows.ksk_rest
  refine wpAny_bind (wpAny_rule ?_)
  first
    | rw [List.forIn_toArray]
    | (rw [← Array.forIn_toList]; simp only [List.toList_toArray])
    | rw [← Array.forIn_toList]
  refine wpAny_bind (PyProof.Rows.ksk_fold (fun i s' => ∃ (H' : Hp) (kA : Array Value) (e : Nat) (kv : List V), L2.Inv X pins σ H' s' ∧ W i H' ∧ s'.heap.get? kS = some (PyProof.Rows.seqObj "list" kA e) ∧ H' kS = none ∧
      s'.heap.get? a = some (PyProof.Rows.seqObj "list" #[] e1) ∧ H' a = none ∧ s'.heap.get? f = some (PySem.W.kla_obj "<lambda>" q params body scope [] pm c' ctv) ∧ H' f = none ∧ Vals kv kA.toList ∧ PySem.W.EachIs (KeyAt H') kv ((bs.map key).take i)) its 0 _
    ⟨H, #[], 0, [], I3, w0, nk0, I.hok.fresh hks, na0, I.hok.fresh ha, hff, hfn, .nil, by rw [List.take_zero]; exact .nil⟩ ?step ?done)
  case step =>
    rintro j x s' hx ⟨H', kA, e, kv, I', w', nk', hk', na', ha', hf', hfn', rk, ek⟩
    simp only [Nat.zero_add] at w' ek ⊢
    have hj : j < its.length := (List.getElem?_eq_some_iff.mp hx).1
    obtain ⟨b, hbj⟩ : ∃ b, bs[j]? = some b := ⟨_, List.getElem?_eq_getElem (by omega)⟩
    have rx : RelV (val b) x := by
      have hm : (x, b) ∈ its.zip bs := List.mem_of_getElem? (i := j) (by rw [List.getElem?_zip_eq_some]; exact ⟨hx, hbj⟩)
      exact hev.zip _ hm
    have hst := step j b H' hbj w'
    have rc : codeAny (model X.prog X.w) X.A.in1.in1 (.call (.ref f) ⟨[x], []⟩) (CR L2.CX0 X.stack X.prog X.w H' s' (fun v H4 => KeyAt H4 v (key b) ∧ W (j + 1) H4) L2.E0) s' :=
      lam_run (k := k) (N := Nl) (ps := [a0]) (vs := [val b]) hf' (wc j H' w') S hr.in1.in1 I'.env0.in1.in1 (hbind x) (.cons rx .nil) rfl (fun hr' => hbody _ _ s' H' hr') hst
    refine wpAny_bind (wpAny_attempt (wpAny_call (codeAny_mono rc fun r s2 hq => ?_)))
    have go : ∀ u, CE X.stack X.prog X.w H' s' (fun v H4 => KeyAt H4 v (key b) ∧ W (j + 1) H4) u s2 → wpAny (model X.prog X.w) X.A.in1.in1 (do Builtin.List.listUpdate (.ref kS) (·.push u); pure (ForInStep.yield PUnit.unit)) (fun r s'' => r = .yield ⟨⟩ ∧ ∃ (H' : Hp) (kA : Array Value) (e : Nat) (kv : List V), L2.Inv X pins σ H' s'' ∧ W (j + 1) H' ∧ s''.heap.get? kS = some (PyProof.Rows.seqObj "list" kA e) ∧ H' kS = none ∧
      s''.heap.get? a = some (PyProof.Rows.seqObj "list" #[] e1) ∧ H' a = none ∧ s''.heap.get? f = some (PySem.W.kla_obj "<lambda>" q params body scope [] pm c' ctv) ∧ H' f = none ∧ Vals kv kA.toList ∧ PySem.W.EachIs (KeyAt H') kv ((bs.map key).take (j + 1))) E' s2 := by
      intro u hce
      obtain ⟨v, H4, hos, hbare, hun, hhok, rvu, hkey, hW⟩ := hce
      obtain ⟨hh, gg, dd, tt, os'⟩ := s2
      obtain rfl : os' = s'.os := hos
      have I4 : L2.Inv X pins σ H4 ⟨hh, gg, dd, tt, s'.os⟩ := I'.call (h' := hh) (g' := gg) (d' := dd) (t' := tt) (ch := []) hun hhok hbare (fun b z => absurd z (by simp))
      have nk4 : hh.get? kS = some (PyProof.Rows.seqObj "list" kA e) := hun.keep kS _ nk' hk' sK (by simp)
      have na4 : hh.get? a = some (PyProof.Rows.seqObj "list" #[] e1) := hun.keep a _ na' ha' sA (by simp)
      have hf4 := hun.keep f _ hf' hfn' hfr (by simp)
      have hk4 : H4 kS = none := hun.free kS _ nk' hk' (by simp)
      have ha4 : H4 a = none := hun.free a _ na' ha' (by simp)
      have hfn4 : H4 f = none := hun.free f _ hf' hfn' (by simp)
      have hz : kA.size ≤ its.length := by
        have h1 := ek.length
        have h2 := rk.length
        have h3 : kA.toList.length = kA.size := Array.length_toList
        rw [List.length_take, List.length_map] at h1
        have h4 : min j bs.length ≤ j := Nat.min_le_left _ _
        omega
      have s1 := Heap.SameBut.update hh kS (Obj.mapSeq (·.push u))
      obtain ⟨c2, hc2⟩ : ∃ c2, (hh.update kS (Obj.mapSeq (·.push u))).get? kS = some (PyProof.Rows.seqObj "list" (kA.push u) c2) := ⟨_, PyProof.Rows.get?_update_seq nk4 (·.push u)⟩
      have ekey : (bs.map key).take (j + 1) = (bs.map key).take j ++ [key b] := by rw [List.take_add_one, List.getElem?_map, hbj]; simp
      have earr : (kA.push u).toList = kA.toList ++ [u] := by simp
      refine wpAny_bind (PyProof.Rows.listUpdate_at nk4 rfl ?_ (Nat.le_trans hz hZ) (Nat.le_trans (Nat.le_of_eq (Array.size_push ..)) (Nat.succ_le_succ (Nat.le_trans hz hZ))))
      refine wpAny_pure ⟨rfl, H4, kA.push u, c2, kv ++ [v], I4.turned (t' := tt) (fun b o hb e => (s1.2 b hb).trans e) hk4 fK.2.1 fK.1 fK.2.2.1 fK.2.2.2, hW, hc2, hk4, (s1.2 a (Nat.ne_of_lt hak)).trans na4, ha4, (s1.2 f (fun z => ?_)).trans hf4, hfn4, ?_, ?_⟩
      · rw [z, nk4] at hf4
        have h1 : Value.type "list" = Value.type "function" := congrArg Obj.cls (Option.some.inj hf4)
        injection h1 with h2
        exact absurd h2 (by decide)
      · rw [earr]
        exact rk.append (.cons rvu .nil)
      · rw [ekey]
        exact PySem.W.each_snoc hkey (ek.mono fun _ _ h => h.tups hun.tups)
    cases r with
    | error er => exact (show False from hq).elim
    | ok fl =>
      cases fl with
      | ret u => exact go u hq
      | next => exact False.elim hq
      | brk => exact False.elim hq
      | cont => exact False.elim hq
  case done =>
    rintro s' ⟨H', kA, e, kv, I', w', nk', hk', na', ha', hf', hfn', rk, ek⟩
    simp only [Nat.zero_add, hlen] at w' ek
    have ek' : PySem.W.EachIs (KeyAt H') kv (bs.map key) := by
      rw [List.take_of_length_le (by rw [List.length_map]; exact Nat.le_refl _)] at ek
      exact ek
    have hsz : kA.size = its.length := by
      have h1 := ek'.length
      have h2 := rk.length
      have h3 : kA.toList.length = kA.size := Array.length_toList
      rw [List.length_map] at h1
      omega
    have hrd := keys_reads I' rk ek'
    try dsimp only
    refine wpAny_bind (PyProof.Rows.listItems_at nk' rfl ?_)
    obtain ⟨G, g1, g2⟩ := L2.restrict s'.heap fun b => decide (b ≠ kS)
    have gk : ∀ b, b ≠ kS → G.get? b = s'.heap.get? b := fun b hb => g1 b (decide_eq_true hb)
    refine PySem.W.keyH_end (κ := PySem.W.dataKind s'.heap (bs.map key)) (b := false) (h₁ := G) (fun b o hb e => ?_) (g2 kS (by simp)) nk' na' (Nat.ne_of_gt hak) (PySem.W.SortsAt.data hrd hal hsk (fun d hd => ?_)) hsz hZ fun h4 tk4 c4 kp hD => ⟨rfl, ?_⟩
    · by_cases hbk : b = kS
      · rw [hbk, g2 kS (by simp)] at e
        cases e
      · rw [gk b hbk] at e
        exact e
    · obtain ⟨b, hb, rfl⟩ := List.mem_map.mp hd
      have h1 := hdp b hb
      show X.A.units + 1 + 1 + _ < cLine
      omega
    · have hout : PySem.W.EachIs (fun u b => RelV (val b) u) (PySem.W.sortVals (PySem.W.dataKind s'.heap (bs.map key)) false kA.toList its) (bs.mergeSort (PySem.W.dataLe false key)) :=
        PySem.W.keyedOut_each key ⟨_, _, hal, rfl, hrd⟩ hev
      refine ⟨.ref a, _, Inv.grab (a := a) (ys := (bs.mergeSort (PySem.W.dataLe false key)).map val) (ch := [a, kS]) (t' := tk4) I' (by simp) (fun b hb => ?_) (fun b hb => ?_) (fun b o hb e => ?_) ?_ (each_vals hout) hD, rfl, fin H' w' a ha'⟩
      · rcases List.mem_cons.mp hb with z | z
        · rw [z]
          exact fA
        · rw [List.mem_singleton.mp z]
          exact fK
      · rcases List.mem_cons.mp hb with z | z
        · rw [z]
          exact ha'
        · rw [List.mem_singleton.mp z]
          exact hk'
      · have n1 : b ≠ a := fun z => hb (by simp [z])
        have n2 : b ≠ kS := fun z => hb (by simp [z])
        exact kp b o n1 (by rw [gk b n2]; exact e)
      · rw [List.length_map, List.length_mergeSort]
        rw [← hlen]
        exact hZ
theorem clo_none {cells : List (Str × Addr)} : ∀ {names : List (Str × NameKind)} {acc : List (Str × Addr)}, (∀ y ∈ names, y.2 ≠ .free) → cloFrom cells names acc = acc
  | [], _, _ => rfl
  | (n, k) :: r, acc, h => by
    unfold cloFrom
    have hk : ¬ ((k == NameKind.free) = true) := fun z => h (n, k) List.mem_cons_self (by simpa using z)
    rw [if_neg hk]
    exact clo_none fun y hy => h y (List.mem_cons_of_mem _ hy)
/-- sorted(e, key=lambda a0: body) -/
theorem pe_sortedLam {T : List (Addr × Str)} {c P : Addr} {k : Nat} {params : Arguments} {e body : Expr} {scope : Scope} {te tb : TE} {p lpos kpos pos : Pos} {a0 : Str} {Nl : List Str} (hg : Gl X "sorted") (hm : X.mg "sorted" = none) (ha : PA X [e] (tCons te tNil))
    (TB : TabB X.base X.mg c P) (hcode : X.env.code = .ref c) (hmT : (P, X.env.qual ++ "<lambda>") ∈ T) (hu : ∀ p ∈ T, p.1 = P → p.2 = X.env.qual ++ "<lambda>") (hr : Room (k + 3) X.A) (S : FnScope Nl [a0] scope)
    (hbody : ∀ (A : Around) (outer : List Env) (s : Shared) (H : Hp) (f c' : Addr), Room k (A.deeper (envOfC (X.env.qual ++ "<lambda>") scope s.heap.objs.size f (.ref c'))) →
      PE (cxOf L2.CX0 X.prog X.w X.K X.mg X.base Nl (X.env.qual ++ "<lambda>") scope f (.ref c') A outer s H L2.E0) body tb)
    (hdef : defaultsOf params X.env = ([], []) := by rfl)
    (hbind : ∀ (q : Str) (pm cv ctv u : Value), bindArgs (PySem.W.kla_fn "<lambda>" q params body scope [] pm cv ctv) ⟨[u], []⟩ = pure [(a0, u)] := by intros; rfl)
    (hee : backTo pos (starEach [e] X.env) = (false, eval e X.env) :: backTo pos (starEach [] X.env) := by rfl) (hpl : (backTo pos (starEach [e] X.env)).any (·.1) = false := by rfl) :
    PE X (.Call (.Name "sorted" p) [e] [⟨some "key", .Lambda params body scope lpos, kpos⟩] pos) (tSortL X.K T (X.env.qual ++ "<lambda>") Nl te tb) := by
  refine ⟨fun pins s σ H Q I h => ?_⟩
  refine wpAny_Call_Name_kw (ld_blt I hg hm PyProof.Rows.boot_sorted ?_ (by decide) (by decide))
  refine PyProof.Rows.callWith_kw (thn (ha.run pos pins s σ H (fun vs H1 => match vs with
    | [x] => ∃ (l : Addr) (β : Type) (bs : List β) (val : β → V) (key : β → PyData),
      x = .ref l ∧ SqL X.K H1 l (bs.map val) ∧ Tabs T H1 ∧ PySem.W.AllAlike (bs.map key) ∧ PySem.W.Sortable (bs.map key) ∧ (∀ b ∈ bs, (key b).depth ≤ 2) ∧ ∀ (c' : Addr) H2, ExtN H1 H2 → Tabs T H2 → H2 c' = some (CodeO c' (X.env.qual ++ "<lambda>")) →
        ∃ W : Nat → Hp → Prop, W 0 H2 ∧ (∀ i H3, W i H3 → H3 c' = some (CodeO c' (X.env.qual ++ "<lambda>"))) ∧
          (∀ i b H3, bs[i]? = some b → W i H3 → tb (L2.start Nl [val b]) H3 fun v H4 => KeyAt H4 v (key b) ∧ W (i + 1) H4) ∧
          ∀ H3, W bs.length H3 → ∀ p, H3 p = none → Q (.ref p) (upd H3 p (.lst ((bs.mergeSort (PySem.W.dataLe false key)).map val)))
    | _ => False) I h) fun us s1 ⟨vs, H1, I1, r1, q1⟩ => ?_) hee hpl rfl rfl
  cases r1 with
  | nil => exact False.elim q1
  | cons rx rr =>
    cases rr with
    | cons _ _ => exact False.elim q1
    | nil =>
      obtain ⟨l, β, bs, val, key, rfl, hl, hT, hal, hsk, hdp, hW⟩ := q1
      obtain rfl := rx
      show wpAny _ _ (evalAll ((do let v ← eval (.Lambda params body scope lpos) X.env; standAt pos; pure v) :: [])) _ _ _
      have hfr0 : cloFrom X.env.cells scope.names [] = [] := clo_none S.nofree
      refine wpAny_evalAll_cons (wpAny_bind (lam_make2 I1 TB hcode hmT hu hT hdef (fun y hy e => absurd e (S.nofree y hy)) fun f c' pm ctv H2 s2 I2 eN T2 hf hfn hfr hco => wpAny_bind (wpAny_standAt (wpAny_pure ?_))))
      rw [hfr0] at hf
      obtain ⟨W, w0, wc, step, fin⟩ := hW c' H2 eN T2 hco
      refine wpAny_evalAll_nil ?_
      show wpAny _ _ (call (.builtin "sorted") [.ref l] [(Str.ofString "key", .ref f)]) _ _ s2
      have hl2 : SqL X.K H2 l (bs.map val) := by
        rcases hl with (z | ⟨o, z⟩) | z
        · exact .inl (.inl (eN _ _ z (fun ps e => by cases e)))
        · exact .inl (.inr ⟨o, eN _ _ z (fun ps e => by cases e)⟩)
        · exact .inr z
      exact sorted_lam I2 hl2 hf hfn hfr S hr (fun u => hbind _ _ _ _ u) (fun A outer s H hr' => hbody A outer s H f c' hr') hal hsk hdp w0 wc step fin
end
end LK

/-! What every law of this program leans on: the text's facts, defs by contract, lambdas' tables, what a step keeps. -/
namespace LB
open PySem PySem.Spec PyProof.Rows L2 LamX LK

/-! ### the text's facts -/
def lamQ (q : Str) : Str := (q ++ ".<locals>.") ++ "<lambda>"
/-- the tables of the defs that hold a lambda -/
def lamT (K : PySem.W.Frag) (tf : List (He.Defn × Str)) : List (Addr × Str) := tf.map fun p => ((He.cT K p.1).2, lamQ p.2)
structure TX (fa : List He.Fa) (fn : List He.DefD) (tf : List (He.Defn × Str)) (ex : PySem.W.Frag → Bool) (K : PySem.W.Frag) (mg : Str → Option Value) (base : Heap) : Prop where
  d : He.SaysD fa fn K
  hp : ∃ h : Heap, K.In h ∧ h.Ns mainGlobals mg
  ex : ex K = true
  nd : (tf.map fun p => (He.cT K p.1).2).Nodup
  tb : ∀ p ∈ tf, TabB base mg (He.cT K p.1).1 (He.cT K p.1).2
section
variable {fa : List He.Fa} {fn : List He.DefD} {tf : List (He.Defn × Str)} {ex : PySem.W.Frag → Bool} {P : Program} {w : World} {K : PySem.W.Frag} {mg : Str → Option Value} {base : Heap}
theorem TX.glo (T : TX fa fn tf ex K mg base) (i : Nat) {x : Str} (h : fa[i]? = some (.glo x) := by rfl) : mg x = some (.ref (He.ga K x)) := by
  obtain ⟨hp, X, G⟩ := T.hp
  exact He.glo_ok X G (T.d.fact i h)
theorem TX.free (T : TX fa fn tf ex K mg base) (i : Nat) {x : Str} (h : fa[i]? = some (.free x) := by rfl) : mg x = none := by
  obtain ⟨hp, X, G⟩ := T.hp
  exact He.free_ok X G (T.d.fact i h)
theorem TX.int (T : TX fa fn tf ex K mg base) (i : Nat) {x : Str} {n : Int} (h : fa[i]? = some (.int x n) := by rfl) : ∃ u, mg x = some u ∧ RelV (.int n) u := by
  obtain ⟨hp, X, G⟩ := T.hp
  obtain ⟨t, e⟩ := He.int_ok X G (T.d.fact i h)
  exact ⟨_, e, t, rfl⟩
theorem TX.str (T : TX fa fn tf ex K mg base) (i : Nat) {x z : Str} (h : fa[i]? = some (.str x z) := by rfl) : ∃ u, mg x = some u ∧ RelV (.str z) u := by
  obtain ⟨hp, X, G⟩ := T.hp
  obtain ⟨t, e⟩ := He.str_ok X G (T.d.fact i h)
  exact ⟨_, e, t, rfl⟩
theorem TX.cls (T : TX fa fn tf ex K mg base) (i : Nat) {x : Str} (h : fa[i]? = some (.cls x) := by rfl) : Cls K (He.ga K x) := He.cls_ok (T.d.fact i h)
theorem TX.noat (T : TX fa fn tf ex K mg base) (i : Nat) {x f : Str} (h : fa[i]? = some (.noat x f) := by rfl) : NoAttr K (He.ga K x) f := He.noat_ok (T.d.fact i h)
theorem TX.meth (T : TX fa fn tf ex K mg base) (i : Nat) {x m : Str} (h : fa[i]? = some (.meth x m) := by rfl) : Meth K (He.ga K x) m (He.ma K (He.ga K x) m) := He.meth_ok (T.d.fact i h)
theorem TX.mkr (T : TX fa fn tf ex K mg base) (i : Nat) {x : Str} (h : fa[i]? = some (.mkr x) := by rfl) : Mk K (He.ga K x) (He.ma K (He.ga K x) "__init__") := He.mkr_ok (T.d.fact i h)

/-! ### defs by contract -/
/-- a def (a method) of the text by its body; cdv: its code object -/
theorem fnok_mk (T : TX fa fn tf ex K mg base) {d : He.DefD} {N ps : List Str} {k : Nat} {sp : Sp} (i : Nat) (hi : fn[i]? = some d) (hdf : d.dfl = []) (hkw : d.kwd = []) (S : FnScope N ps d.scope)
    (hb : ∀ (kV doc pm : Value) (an : Option Addr) (cdv ct : Value) (us : List Value), us.length = ps.length → bindArgs (PySem.W.fnOf d.name d.qual d.params d.body d.scope .none kV doc pm an cdv ct) ⟨us, []⟩ = pure (ps.zip us))
    (len : ∀ vs H Q E, sp vs H Q E → vs.length = ps.length)
    (hbody : ∀ (A : Around) (outer : List Env) (s : Shared) (H : Hp) (vs : List V) (Q : VK) (E : XK), Room k (A.deeper (envOfC d.qual d.scope s.heap.objs.size (He.fAd K d.at_) (.ref (He.cT K d.at_).1))) → sp vs H Q E →
      ∃ t, PSs (cxOf L2.CX0 P w K mg base N d.qual d.scope (He.fAd K d.at_) (.ref (He.cT K d.at_).1) A outer s H E).nox d.body t ∧ t { nx := fun _ H' => Q .non H', rt := Q } (L2.start N vs) H) :
    ∃ fd, FnOk P w K mg base L2.CX0 (k + 1) (He.fAd K d.at_) fd ps sp ∧ PySem.W.keepIn K (.ref (He.fAd K d.at_)) = true ∧ Binds K fd ps [] := by
  obtain ⟨fd, F⟩ := T.d.def_ i hi
  have e1 : d.dvs K = [] := by
    unfold He.DefD.dvs
    rw [hdf]
    rfl
  rw [e1] at F
  have b := F.bindsN hb
  have kp := F.kp
  obtain ⟨oc, od, dV, kV, doc, pm, an, cdv, ct, osl, rfl, lk, hcd, _, _⟩ := F.ex
  obtain ⟨c, rfl⟩ := He.codeIn_ref hcd
  have ec : (He.cT K d.at_).1 = c := He.codeOf_eq lk rfl
  refine ⟨_, fn_of lk hcd S len fun A outer s H vs Q E hr hsp => ?_, kp, b⟩
  have q := hbody A outer s H vs Q E (by rw [ec]; exact hr) hsp
  rw [ec] at q
  obtain ⟨t, h1, h2⟩ := q
  exact ⟨t, h1.nox, h2⟩
/-- a def of the module, called by its name; k: its level -/
structure Cal (P : Program) (w : World) (K : PySem.W.Frag) (mg : Str → Option Value) (base : Heap) (k : Nat) (x : Str) (sp : Sp) : Prop where
  ex : ∃ (f : Addr) (fd : FuncData) (ps : List Str), FnOk P w K mg base L2.CX0 k f fd ps sp ∧ mg x = some (.ref f) ∧ PySem.W.keepIn K (.ref f) = true ∧ Binds K fd ps []
structure Mak (P : Program) (w : World) (K : PySem.W.Frag) (mg : Str → Option Value) (base : Heap) (k : Nat) (x : Str) (C : Addr) (sp : Sp) : Prop where
  ex : ∃ (f : Addr) (fd : FuncData) (ps : List Str), Mk K C f ∧ FnOk P w K mg base L2.CX0 k f fd ps sp ∧ mg x = some (.ref C) ∧ Binds K fd ps []
theorem Cal.mono {x : Str} {sp : Sp} {j k : Nat} (c : Cal P w K mg base j x sp) (h : j ≤ k) : Cal P w K mg base k x sp := by
  obtain ⟨f, fd, ps, F, q⟩ := c.ex
  exact ⟨f, fd, ps, F.mono h, q⟩
theorem cal_mk {x : Str} {sp : Sp} {k : Nat} {ps : List Str} (h : ∃ fd, FnOk P w K mg base L2.CX0 k (He.fAd K (x, none)) fd ps sp ∧ PySem.W.keepIn K (.ref (He.fAd K (x, none))) = true ∧ Binds K fd ps []) (hm : mg x = some (.ref (He.ga K x))) :
    Cal P w K mg base k x sp := by
  obtain ⟨fd, F, kp, b⟩ := h
  exact ⟨_, fd, ps, F, hm, kp, b⟩
theorem mak_mk {x : Str} {sp : Sp} {k : Nat} {ps : List Str} (h : ∃ fd, FnOk P w K mg base L2.CX0 k (He.fAd K (x, some "__init__")) fd ps sp ∧ PySem.W.keepIn K (.ref (He.fAd K (x, some "__init__"))) = true ∧ Binds K fd ps []) (hm : mg x = some (.ref (He.ga K x)))
    (M : Mk K (He.ga K x) (He.ma K (He.ga K x) "__init__")) : Mak P w K mg base k x (He.ga K x) sp := by
  obtain ⟨fd, F, kp, b⟩ := h
  exact ⟨_, fd, ps, M, F, hm, b⟩
end
section
variable {X : Cx} {k j : Nat} {C : Addr} {x m : Str} {sp : Sp} {p pos apos : Pos} {e o : Expr} {es : List Expr} {ta : TE} {t : TA}
theorem pe_c (c : Cal X.prog X.w X.K X.mg X.base k x sp) (hr : Room j X.A) (hk : k ≤ j) (hg : Gl X x) (ha : PA X (e :: es) t)
    (hdb : (x == ("__debug__" : Str)) = false := by decide) (he : starEach (e :: es) X.env = (false, eval e X.env) :: starEach es X.env := by rfl) (hpl : (backTo pos (starEach es X.env)).any (·.1) = false := by rfl) :
    PE X (.Call (.Name x p) (e :: es) [] pos) (tCall sp [] L2.E0 t) := by
  obtain ⟨f, fd, ps, F, hm, kp, b⟩ := c.ex
  exact pe_call F (hr.mono hk) hg hm kp b .nil pass0 ha hdb he hpl
theorem pe_gc {v : V} (hg : Gl X x) (h : ∃ u, X.mg x = some u ∧ RelV v u) (hd : (x == ("__debug__" : Str)) = false := by decide) : PE X (.Name x pos) (tC v) := by
  obtain ⟨u, hm, r⟩ := h
  exact pe_glob hg hm r hd
theorem pe_c0 (c : Cal X.prog X.w X.K X.mg X.base k x sp) (hr : Room j X.A) (hk : k ≤ j) (hg : Gl X x) (hdb : (x == ("__debug__" : Str)) = false := by decide) :
    PE X (.Call (.Name x p) [] [] pos) (tCall sp [] L2.E0 tNil) := by
  obtain ⟨f, fd, ps, F, hm, kp, b⟩ := c.ex
  exact pe_call0 F (hr.mono hk) hg hm kp b .nil pass0 hdb
theorem pe_mk (c : Mak X.prog X.w X.K X.mg X.base k x C sp) (hr : Room j X.A) (hk : k + 1 ≤ j) (hg : Gl X x) (ha : PA X (e :: es) t)
    (hdb : (x == ("__debug__" : Str)) = false := by decide) (he : starEach (e :: es) X.env = (false, eval e X.env) :: starEach es X.env := by rfl) (hpl : (backTo pos (starEach es X.env)).any (·.1) = false := by rfl) :
    PE X (.Call (.Name x p) (e :: es) [] pos) (tMake C sp [] L2.E0 t) := by
  obtain ⟨f, fd, ps, M, F, hm, b⟩ := c.ex
  exact pe_make M F (hr.mono hk) hg hm b .nil pass0 ha hdb he hpl
end

/-! ### lambdas -/
section
variable {tf : List (He.Defn × Str)} {K : PySem.W.Frag}
theorem lamT_mem {i : Nat} {p : He.Defn} {q : Str} (h : tf[i]? = some (p, q)) : ((He.cT K p).2, lamQ q) ∈ lamT K tf := List.mem_map.mpr ⟨(p, q), List.mem_of_getElem? h, rfl⟩
theorem lamT_one (nd : (tf.map fun p => (He.cT K p.1).2).Nodup) {i : Nat} {p : He.Defn} {q : Str} (h : tf[i]? = some (p, q)) : ∀ z ∈ lamT K tf, z.1 = (He.cT K p).2 → z.2 = lamQ q := by
  intro z hz e
  obtain ⟨y, hy, ey⟩ := List.mem_map.mp hz
  obtain ⟨j, hj', ej⟩ := List.mem_iff_getElem.mp hy
  have ez : z = ((He.cT K tf[j].1).2, lamQ tf[j].2) := by
    rw [← ey, ej]
  obtain ⟨hi, ei⟩ := List.getElem?_eq_some_iff.mp h
  have e2 : (He.cT K tf[j].1).2 = (He.cT K tf[i].1).2 := by
    rw [ei]
    rw [ez] at e
    exact e
  have e3 : j = i := by
    have hl : (tf.map fun p => (He.cT K p.1).2).length = tf.length := List.length_map _
    have q1 : (tf.map fun p => (He.cT K p.1).2)[j]'(by rw [hl]; exact hj') = (tf.map fun p => (He.cT K p.1).2)[i]'(by rw [hl]; exact hi) := by
      rw [List.getElem_map, List.getElem_map]
      exact e2
    exact (List.getElem_inj nd).mp q1
  subst e3
  rw [ez, ei]
end

/-! ### isinstance, == of an own class -/
def insB (K : PySem.W.Frag) (C : Addr) : Bool :=
  He.eqO (PySem.W.findIn K (.ref C) "__class__") (some (some (.builtin "object.__class__"))) && He.eqO (PySem.W.specialIn K (.builtin "object.__class__") "__get__") (some (some (.builtin "getset_descriptor.__get__"))) &&
    decide (PySem.W.takesIn K (.builtin "object.__class__") = some true) && decide (PySem.W.mroIn K C (.type "object") = some true) && decide (PySem.W.kitOne K (.ref C) (.ref C) = some true)
theorem insB_ok {K : PySem.W.Frag} {C : Addr} (cl : Cls K C) (h : insB K C = true) : C8.InsC K C := by
  unfold insB at h
  simp only [Bool.and_eq_true, decide_eq_true_eq] at h
  exact ⟨cl, He.eqO_ok h.1.1.1.1, He.eqO_ok h.1.1.1.2, h.1.1.2, h.1.2, h.2⟩
/-- x == y by the own __eq__ of the class at C -/
def rEqOwn (C : Addr) (sp : Sp) (E : XK) : R2 := fun x y H Q => ∃ a b dx dy fs gs, x = .ref a ∧ y = .ref b ∧ H a = some (.ins C dx fs) ∧ H b = some (.ins C dy gs) ∧ sp [.ref a, .ref b] H (fun v H' => ∃ c, v = .bl c ∧ Q (.bl c) H') E
theorem op_eqOwn {X : Cx} {n : Nat} {CX : CXT} {C f : Addr} {fd : FuncData} {ps : List Str} {sp : Sp} {E : XK} (F : FnOk X.prog X.w X.K X.mg X.base CX n f fd ps sp)
    (hs : PySem.W.findIn X.K (.ref C) "__eq__" = some (some (.ref f))) (hf : PySem.W.isFn X.K (.ref f) = true) (hb : Binds X.K fd ps []) (hx : Passes CX X E) (hr : Room n X.A) : OpR X (compareOp .Eq) (rEqOwn C sp E) := by
  intro pins s σ H x y u v Q I rx ry d
  obtain ⟨a, b, dx, dy, fs, gs, rfl, rfl, ha, hb', hsp⟩ := d
  cases rx
  cases ry
  obtain ⟨mA, J, _⟩ := ins_get I.hok ha
  obtain ⟨mB, J', _⟩ := ins_get I.hok hb'
  obtain ⟨od, J, _⟩ := J.look
  obtain ⟨od', J', _⟩ := J'.look
  obtain ⟨m, hF⟩ := I.fr
  show wpAny (model X.prog X.w) X.A (richCompare .Eq (.ref a) (.ref b)) (EP X pins σ Q) X.xe s
  refine PySem.W.cmp_K (op := .Eq) (tb := .ref C) hr.units0 hF I.ok.mod.kin J J'.type (by simp [PySem.W.notFirst]) hs hf ?_
  have hl := F.len _ _ _ _ hsp
  have r2 : Vals [V.ref a, V.ref b] [Value.ref a, Value.ref b] := .cons rfl (.cons rfl .nil)
  refine wpAny_call (codeAny_mono (F.run X.A X.stack s H ⟨[.ref a, .ref b], []⟩ [.ref a, .ref b] [.ref a, .ref b] _ E hr I.env0 (by
    have := hb s [.ref a, .ref b] I.kIn (by simpa using hl)
    simpa using this) r2 hsp) fun r s' hq => ?_)
  cases r with
  | error e => exact hx pins σ H s e s' I hq
  | ok fl =>
    cases fl with
    | ret w =>
      obtain ⟨z, H', I', rz, c, ez, q⟩ := I.after hq
      subst ez
      cases rz
      exact ⟨.bl c, H', I', rfl, q⟩
    | next => exact False.elim hq
    | brk => exact False.elim hq
    | cont => exact False.elim hq
end LB

/-! What a step keeps; the bag of draws; trees of tuples. -/
namespace LB
open PySem PySem.Spec PyProof.Rows L2 LamX LK

abbrev TBs := List (Addr × Str)
/-- all but the lambdas' tables and the objects at B stays -/
structure Stp (T : TBs) (B : List Addr) (H H' : Hp) : Prop where
  ex : ∀ a o, H a = some o → (∀ ps, o ≠ .tbl ps) → a ∉ B → H' a = some o
  tabs : Tabs T H → Tabs T H'
/-- no table, no code object -/
def Own : HO → Prop
  | .tbl _ => False
  | .ext _ => False
  | _ => True
section
variable {T : TBs} {B B' : List Addr} {H H1 H2 H3 : Hp} {a p l : Addr} {o u : HO} {xs : List V}
theorem Own.tbl (h : Own u) : ∀ ps, u ≠ .tbl ps := fun ps e => by rw [e] at h; exact h
theorem Own.code (h : Own u) (c : Addr) (q : Str) : u ≠ CodeO c q := fun e => by rw [e] at h; exact h
theorem Stp.refl : Stp T B H H := ⟨fun _ _ h _ _ => h, fun h => h⟩
theorem Stp.trans (x : Stp T B H H1) (y : Stp T B H1 H2) : Stp T B H H2 := ⟨fun a o h n m => y.ex a o (x.ex a o h n m) n m, fun h => y.tabs (x.tabs h)⟩
theorem Stp.mono (x : Stp T B H H1) (h : ∀ b ∈ B, b ∈ B') : Stp T B' H H1 := ⟨fun a o q n m => x.ex a o q n (fun z => m (h a z)), x.tabs⟩
theorem Stp.wide (x : Stp T [] H H1) : Stp T B H H1 := x.mono (by simp)
theorem Stp.of (e : ∀ b o, H b = some o → H1 b = some o) : Stp T B H H1 := ⟨fun a o h _ _ => e a o h, fun t => t.ext e⟩
theorem Stp.new (h : H p = none) : Stp T B H (upd H p o) := .of fun b u e => by rw [upd_ne (ne_of_none e h)]; exact e
theorem Stp.alloc (x : Stp T B H H1) (h : H1 p = none) : Stp T B H (upd H1 p o) := x.trans (.new h)
theorem Stp.lam (e : ExtN H H1) (t : Tabs T H1) : Stp T B H H1 := ⟨fun a o h n _ => e a o h n, fun _ => t⟩
theorem Stp.get (x : Stp T B H H1) (h : H a = some o) (ow : Own o) (n : a ∉ B) : H1 a = some o := x.ex a o h ow.tbl n
theorem Stp.get0 (x : Stp T [] H H1) (h : H a = some o) (ow : Own o) : H1 a = some o := x.ex a o h ow.tbl (by simp)
theorem tabs_upd (t : Tabs T H) (hl : H l = some u) (hu : Own u) : Tabs T (upd H l o) := fun p hp => by
  obtain ⟨ps, h1, h2, h3⟩ := t p hp
  have ne : ∀ {b : Addr} {v : HO}, H b = some v → v ≠ u → b ≠ l := fun {b v} e n z => by
    rw [z, hl] at e
    exact n (Option.some.inj e).symm
  refine ⟨ps, by rw [upd_ne (ne h1 (fun z => hu.tbl ps z.symm))]; exact h1, h2, fun pos cv hc => ?_⟩
  obtain ⟨c, e1, e2⟩ := h3 pos cv hc
  exact ⟨c, e1, by rw [upd_ne (ne e2 (fun z => hu.code c p.2 z.symm))]; exact e2⟩
/-- p is new since H (or a table's) -/
def Nw (H : Hp) (p : Addr) : Prop := ∀ o, H p = some o → ∃ ps, o = HO.tbl ps
theorem Nw.of (h : H p = none) : Nw H p := fun o e => by
  rw [h] at e
  cases e
theorem Nw.ne (h : Nw H p) (e : H a = some o) (ow : Own o) : a ≠ p := fun z => by
  rw [z] at e
  obtain ⟨ps, q⟩ := h o e
  rw [q] at ow
  exact ow
theorem Nw.no (h : Nw H p) (e : H p = some o) (ow : Own o) : False := h.ne e ow rfl
theorem Nw.back (h : Nw H1 p) (x : Stp T [] H H1) : Nw H p := fun o e => Classical.byContradiction fun n => by
  have e1 := x.ex p o e (fun ps z => n ⟨ps, z⟩) (by simp)
  exact n (h o e1)
theorem Nw.backB (h : Nw H1 p) (x : Stp T B H H1) (n : p ∉ B) : Nw H p := fun o e => Classical.byContradiction fun z => z (h o (x.ex p o e (fun ps q => z ⟨ps, q⟩) n))
/-- an object that is new since H, or one of B's, is changed -/
theorem Stp.mut (x : Stp T B H H1) (h0 : Nw H l ∨ l ∈ B) (hl : H1 l = some u) (hu : Own u) : Stp T B H (upd H1 l o) := by
  refine ⟨fun a v e n m => ?_, fun t => tabs_upd (x.tabs t) hl hu⟩
  have ne : a ≠ l := fun z => by
    rcases h0 with h0 | h0
    · rw [z] at e
      obtain ⟨ps, q⟩ := h0 v e
      exact n ps q
    · exact m (by rw [z]; exact h0)
  rw [upd_ne ne]
  exact x.ex a v e n m
theorem Stp.set (hl : H l = some u) (hu : Own u) (hb : l ∈ B) : Stp T B H (upd H l o) := Stp.refl.mut (.inr hb) hl hu

/-- tuples stay -/
def Tup (H H' : Hp) : Prop := ∀ a xs, H a = some (.tup xs) → H' a = some (.tup xs)
theorem Tup.refl : Tup H H := fun _ _ h => h
theorem Tup.trans (x : Tup H H1) (y : Tup H1 H2) : Tup H H2 := fun a xs h => y a xs (x a xs h)
/-- each of B is a list -/
def Lsts (H : Hp) (B : List Addr) : Prop := ∀ b ∈ B, ∃ xs, H b = some (.lst xs)
theorem lsts_nil : Lsts H [] := fun _ h => by simp at h
theorem lsts_one (h : H a = some (.lst xs)) : Lsts H [a] := fun b hb => by
  rw [List.mem_singleton.mp hb]
  exact ⟨xs, h⟩
theorem Stp.tup (x : Stp T B H H1) (h : Lsts H B) : Tup H H1 := fun a xs e => x.ex a _ e (fun ps z => by cases z) fun m => by
  obtain ⟨ys, q⟩ := h a m
  rw [e] at q
  cases q
theorem Tup.new (h : H p = none) : Tup H (upd H p o) := fun a xs e => by rw [upd_ne (ne_of_none e h)]; exact e
theorem Tup.mutl (h : H l = some (.lst xs)) : Tup H (upd H l o) := fun a ys e => by rw [upd_ne (ne_of e h (by intro z; cases z))]; exact e
end

/-! ### comprehensions -/
section
variable {T : TBs} {B : List Addr} {J : It} {n : Nat} {G : Hp → Prop} {Y : Nat → Hp → V → Hp → Prop}
theorem lc_acc (w : Walk J n G Y) (yv : Nat → V → Prop) (hY : ∀ i H x H', Y i H x H' → H' = H ∧ yv i x) {g : TG} {tt : TT} {te : TE} {vs : List Nat} {σ : L2.St} {H0 H1 : Hp} {D : Addr} {Qd : Hp → Prop} (Jv : Hp → Prop)
    (e0 : Stp T B H0 H1) (hD : H1 D = none) (hDB : D ∉ B) (hn : n ≤ sizeLine) (A : Nat → Hp → List V → Prop) (A0 : ∀ H, A 0 H []) (At : ∀ i H H' acc, Tup H H' → A i H acc → A i H' acc)
    (J0 : Jv H1) (Jm : ∀ H o, Jv H → Jv (upd H D o)) (hG : ∀ H, Stp T B H0 H → Jv H → G H)
    (hs : ∀ i x H2 (Nx : Hp → Prop), i < n → yv i x → Stp T B H0 H2 → Jv H2 →
      (∀ y H4, Stp T B H2 H4 → Jv H4 → (∀ acc, acc.length ≤ i → A i H2 acc → A (i + 1) H4 (acc ++ [y])) → ∃ acc, H4 D = some (.lst acc) ∧ acc.length < sizeLine ∧ Nx (upd H4 D (.lst (acc ++ [y])))) →
      (∀ H4, Stp T B H2 H4 → Jv H4 → (∀ acc, A i H2 acc → A (i + 1) H4 acc) → Nx H4) →
      g x (wipe σ vs) H2 fun σ2 H3 => wipe σ2 vs = wipe σ vs ∧ tt σ2 H3 fun b H4 => if b = true then te σ2 H4 fun y H5 => ∃ acc, H5 D = some (.lst acc) ∧ acc.length < sizeLine ∧ Nx (upd H5 D (.lst (acc ++ [y]))) else Nx H4)
    (hd : ∀ H' ys, Stp T B H0 H' → Jv H' → H' D = some (.lst ys) → A n H' ys → Qd H') :
    ∃ W : Nat → Nat → Hp → Prop, (∃ m, W 0 m (upd H1 D (.lst []))) ∧ ∀ i m H, W i m H →
      (J.stop i H ∧ Qd H) ∨ (J.go i H ∧ ∃ Nx : Hp → Prop, (∀ H', Nx H' → ∃ m', m' < m ∧ W (i + 1) m' H') ∧ ∀ x H', J.yld i H x H' → g x (wipe σ vs) H' fun σ2 H2 => wipe σ2 vs = wipe σ vs ∧ tt σ2 H2 fun b H3 =>
        if b = true then te σ2 H3 fun y H4 => ∃ acc, H4 D = some (.lst acc) ∧ acc.length < sizeLine ∧ Nx (upd H4 D (.lst (acc ++ [y]))) else Nx H3) := by
  have nD : Nw H0 D := (Nw.of hD).backB e0 hDB
  refine lc_it w (fun i H => Stp T B H0 H ∧ Jv H ∧ ∃ acc, H D = some (.lst acc) ∧ acc.length ≤ i ∧ A i H acc) ⟨e0.alloc hD, Jm _ _ J0, [], upd_same, Nat.le_refl _, A0 _⟩ (fun i H _ h => hG H h.1 h.2.1) (fun i x H H' hi ⟨e1, j1, acc, h1, h2, h3⟩ hy => ?_) fun H ⟨e1, j1, acc, h1, h2, h3⟩ => hd H acc e1 j1 h1 h3
  obtain ⟨rfl, hyv⟩ := hY _ _ _ _ hy
  refine hs i x H' _ hi hyv e1 j1 (fun y H4 e2 j2 a2 => ?_) fun H4 e2 j2 a2 => ⟨e1.trans e2, j2, acc, e2.get h1 trivial hDB, Nat.le_succ_of_le h2, a2 acc h3⟩
  have h4 := e2.get h1 trivial hDB
  refine ⟨acc, h4, by omega, (e1.trans e2).mut (.inl nD) h4 trivial, Jm _ _ j2, acc ++ [y], upd_same, ?_, At _ _ _ _ (Tup.mutl h4) (a2 acc h2 h3)⟩
  rw [List.length_append]
  exact Nat.succ_le_succ h2
theorem lc_accY (w : Walk J n G Y) (yv : Nat → V → Prop) (hY : ∀ i H x H', Y i H x H' → H' = H ∧ yv i x) {g : TG} {te : TE} {vs : List Nat} {σ : L2.St} {H0 H1 : Hp} {D : Addr} {Qd : Hp → Prop} (Jv : Hp → Prop)
    (e0 : Stp T B H0 H1) (hD : H1 D = none) (hDB : D ∉ B) (hn : n ≤ sizeLine) (A : Nat → Hp → List V → Prop) (A0 : ∀ H, A 0 H []) (At : ∀ i H H' acc, Tup H H' → A i H acc → A i H' acc)
    (J0 : Jv H1) (Jm : ∀ H o, Jv H → Jv (upd H D o)) (hG : ∀ H, Stp T B H0 H → Jv H → G H)
    (hs : ∀ i x H2 (Nx : Hp → Prop), i < n → yv i x → Stp T B H0 H2 → Jv H2 →
      (∀ y H4, Stp T B H2 H4 → Jv H4 → (∀ acc, acc.length ≤ i → A i H2 acc → A (i + 1) H4 (acc ++ [y])) → ∃ acc, H4 D = some (.lst acc) ∧ acc.length < sizeLine ∧ Nx (upd H4 D (.lst (acc ++ [y])))) →
      g x (wipe σ vs) H2 fun σ2 H3 => wipe σ2 vs = wipe σ vs ∧ te σ2 H3 fun y H5 => ∃ acc, H5 D = some (.lst acc) ∧ acc.length < sizeLine ∧ Nx (upd H5 D (.lst (acc ++ [y]))))
    (hd : ∀ H' ys, Stp T B H0 H' → Jv H' → H' D = some (.lst ys) → A n H' ys → Qd H') :
    ∃ W : Nat → Nat → Hp → Prop, (∃ m, W 0 m (upd H1 D (.lst []))) ∧ ∀ i m H, W i m H →
      (J.stop i H ∧ Qd H) ∨ (J.go i H ∧ ∃ Nx : Hp → Prop, (∀ H', Nx H' → ∃ m', m' < m ∧ W (i + 1) m' H') ∧ ∀ x H', J.yld i H x H' → g x (wipe σ vs) H' fun σ2 H2 => wipe σ2 vs = wipe σ vs ∧ tYes σ2 H2 fun b H3 =>
        if b = true then te σ2 H3 fun y H4 => ∃ acc, H4 D = some (.lst acc) ∧ acc.length < sizeLine ∧ Nx (upd H4 D (.lst (acc ++ [y]))) else Nx H3) :=
  lc_acc (tt := tYes) w yv hY Jv e0 hD hDB hn A A0 At J0 Jm hG (fun i x H2 Nx hi hy e j k _ => hs i x H2 Nx hi hy e j k) hd
/-- over a tuple, no object of B -/
theorem lc_tup0 {K : PySem.W.Frag} {a : Addr} {xs : List V} {g : TG} {tt : TT} {te : TE} {vs : List Nat} {σ : L2.St} {H0 H1 : Hp} {D : Addr} {Qd : Hp → Prop}
    (e0 : Stp T [] H0 H1) (hD : H1 D = none) (ha : H0 a = some (.tup xs)) (hn : xs.length ≤ sizeLine) (A : Nat → Hp → List V → Prop) (A0 : ∀ H, A 0 H []) (At : ∀ i H H' acc, Tup H H' → A i H acc → A i H' acc)
    (hs : ∀ i x H2 (Nx : Hp → Prop), xs[i]? = some x → Stp T [] H0 H2 →
      (∀ y H4, Stp T [] H2 H4 → (∀ acc, acc.length ≤ i → A i H2 acc → A (i + 1) H4 (acc ++ [y])) → ∃ acc, H4 D = some (.lst acc) ∧ acc.length < sizeLine ∧ Nx (upd H4 D (.lst (acc ++ [y])))) →
      (∀ H4, Stp T [] H2 H4 → (∀ acc, A i H2 acc → A (i + 1) H4 acc) → Nx H4) →
      g x (wipe σ vs) H2 fun σ2 H3 => wipe σ2 vs = wipe σ vs ∧ tt σ2 H3 fun b H4 => if b = true then te σ2 H4 fun y H5 => ∃ acc, H5 D = some (.lst acc) ∧ acc.length < sizeLine ∧ Nx (upd H5 D (.lst (acc ++ [y]))) else Nx H4)
    (hd : ∀ H' ys, Stp T [] H0 H' → H' D = some (.lst ys) → A xs.length H' ys → Qd H') :
    ∃ W : Nat → Nat → Hp → Prop, (∃ m, W 0 m (upd H1 D (.lst []))) ∧ ∀ i m H, W i m H →
      ((Itt K a).stop i H ∧ Qd H) ∨ ((Itt K a).go i H ∧ ∃ Nx : Hp → Prop, (∀ H', Nx H' → ∃ m', m' < m ∧ W (i + 1) m' H') ∧ ∀ x H', (Itt K a).yld i H x H' → g x (wipe σ vs) H' fun σ2 H2 => wipe σ2 vs = wipe σ vs ∧ tt σ2 H2 fun b H3 =>
        if b = true then te σ2 H3 fun y H4 => ∃ acc, H4 D = some (.lst acc) ∧ acc.length < sizeLine ∧ Nx (upd H4 D (.lst (acc ++ [y]))) else Nx H3) :=
  lc_acc (T := T) (B := []) (walk_tup (K := K) (a := a) (xs := xs)) (fun i x => xs[i]? = some x) (fun i H x H' h => h) (fun _ => True) e0 hD (by simp) hn A A0 At trivial (fun _ _ _ => trivial) (fun H e _ => SqT.of (e.get0 ha trivial))
    (fun i x H2 Nx _ hy e _ k kn => hs i x H2 Nx hy e (fun y H4 e4 a4 => k y H4 e4 trivial a4) fun H4 e4 a4 => kn H4 e4 trivial a4) fun H' ys e _ h a => hd H' ys e h a
/-- over a list that is not changed -/
theorem lc_list0 {K : PySem.W.Frag} {a : Addr} {xs : List V} {g : TG} {tt : TT} {te : TE} {vs : List Nat} {σ : L2.St} {H0 H1 : Hp} {D : Addr} {Qd : Hp → Prop}
    (e0 : Stp T [] H0 H1) (hD : H1 D = none) (ha : H0 a = some (.lst xs)) (hn : xs.length ≤ sizeLine) (A : Nat → Hp → List V → Prop) (A0 : ∀ H, A 0 H []) (At : ∀ i H H' acc, Tup H H' → A i H acc → A i H' acc)
    (hs : ∀ i x H2 (Nx : Hp → Prop), xs[i]? = some x → Stp T [] H0 H2 →
      (∀ y H4, Stp T [] H2 H4 → (∀ acc, acc.length ≤ i → A i H2 acc → A (i + 1) H4 (acc ++ [y])) → ∃ acc, H4 D = some (.lst acc) ∧ acc.length < sizeLine ∧ Nx (upd H4 D (.lst (acc ++ [y])))) →
      (∀ H4, Stp T [] H2 H4 → (∀ acc, A i H2 acc → A (i + 1) H4 acc) → Nx H4) →
      g x (wipe σ vs) H2 fun σ2 H3 => wipe σ2 vs = wipe σ vs ∧ tt σ2 H3 fun b H4 => if b = true then te σ2 H4 fun y H5 => ∃ acc, H5 D = some (.lst acc) ∧ acc.length < sizeLine ∧ Nx (upd H5 D (.lst (acc ++ [y]))) else Nx H4)
    (hd : ∀ H' ys, Stp T [] H0 H' → H' D = some (.lst ys) → A xs.length H' ys → Qd H') :
    ∃ W : Nat → Nat → Hp → Prop, (∃ m, W 0 m (upd H1 D (.lst []))) ∧ ∀ i m H, W i m H →
      ((Itl K a).stop i H ∧ Qd H) ∨ ((Itl K a).go i H ∧ ∃ Nx : Hp → Prop, (∀ H', Nx H' → ∃ m', m' < m ∧ W (i + 1) m' H') ∧ ∀ x H', (Itl K a).yld i H x H' → g x (wipe σ vs) H' fun σ2 H2 => wipe σ2 vs = wipe σ vs ∧ tt σ2 H2 fun b H3 =>
        if b = true then te σ2 H3 fun y H4 => ∃ acc, H4 D = some (.lst acc) ∧ acc.length < sizeLine ∧ Nx (upd H4 D (.lst (acc ++ [y]))) else Nx H3) :=
  lc_acc (T := T) (B := []) (walk_list (K := K) (a := a) (xs := xs)) (fun i x => xs[i]? = some x) (fun i H x H' h => h) (fun _ => True) e0 hD (by simp) hn A A0 At trivial (fun _ _ _ => trivial) (fun H e _ => SqL.of (e.get0 ha trivial))
    (fun i x H2 Nx _ hy e _ k kn => hs i x H2 Nx hy e (fun y H4 e4 a4 => k y H4 e4 trivial a4) fun H4 e4 a4 => kn H4 e4 trivial a4) fun H' ys e _ h a => hd H' ys e h a
theorem lc_tupY {K : PySem.W.Frag} {a : Addr} {xs : List V} {g : TG} {te : TE} {vs : List Nat} {σ : L2.St} {H0 H1 : Hp} {D : Addr} {Qd : Hp → Prop}
    (e0 : Stp T [] H0 H1) (hD : H1 D = none) (ha : H0 a = some (.tup xs)) (hn : xs.length ≤ sizeLine) (A : Nat → Hp → List V → Prop) (A0 : ∀ H, A 0 H []) (At : ∀ i H H' acc, Tup H H' → A i H acc → A i H' acc)
    (hs : ∀ i x H2 (Nx : Hp → Prop), xs[i]? = some x → Stp T [] H0 H2 →
      (∀ y H4, Stp T [] H2 H4 → (∀ acc, acc.length ≤ i → A i H2 acc → A (i + 1) H4 (acc ++ [y])) → ∃ acc, H4 D = some (.lst acc) ∧ acc.length < sizeLine ∧ Nx (upd H4 D (.lst (acc ++ [y])))) →
      g x (wipe σ vs) H2 fun σ2 H3 => wipe σ2 vs = wipe σ vs ∧ te σ2 H3 fun y H5 => ∃ acc, H5 D = some (.lst acc) ∧ acc.length < sizeLine ∧ Nx (upd H5 D (.lst (acc ++ [y]))))
    (hd : ∀ H' ys, Stp T [] H0 H' → H' D = some (.lst ys) → A xs.length H' ys → Qd H') :
    ∃ W : Nat → Nat → Hp → Prop, (∃ m, W 0 m (upd H1 D (.lst []))) ∧ ∀ i m H, W i m H →
      ((Itt K a).stop i H ∧ Qd H) ∨ ((Itt K a).go i H ∧ ∃ Nx : Hp → Prop, (∀ H', Nx H' → ∃ m', m' < m ∧ W (i + 1) m' H') ∧ ∀ x H', (Itt K a).yld i H x H' → g x (wipe σ vs) H' fun σ2 H2 => wipe σ2 vs = wipe σ vs ∧ tYes σ2 H2 fun b H3 =>
        if b = true then te σ2 H3 fun y H4 => ∃ acc, H4 D = some (.lst acc) ∧ acc.length < sizeLine ∧ Nx (upd H4 D (.lst (acc ++ [y]))) else Nx H3) :=
  lc_tup0 (tt := tYes) e0 hD ha hn A A0 At (fun i x H2 Nx hx e k _ => hs i x H2 Nx hx e k) hd
theorem lc_listY {K : PySem.W.Frag} {a : Addr} {xs : List V} {g : TG} {te : TE} {vs : List Nat} {σ : L2.St} {H0 H1 : Hp} {D : Addr} {Qd : Hp → Prop}
    (e0 : Stp T [] H0 H1) (hD : H1 D = none) (ha : H0 a = some (.lst xs)) (hn : xs.length ≤ sizeLine) (A : Nat → Hp → List V → Prop) (A0 : ∀ H, A 0 H []) (At : ∀ i H H' acc, Tup H H' → A i H acc → A i H' acc)
    (hs : ∀ i x H2 (Nx : Hp → Prop), xs[i]? = some x → Stp T [] H0 H2 →
      (∀ y H4, Stp T [] H2 H4 → (∀ acc, acc.length ≤ i → A i H2 acc → A (i + 1) H4 (acc ++ [y])) → ∃ acc, H4 D = some (.lst acc) ∧ acc.length < sizeLine ∧ Nx (upd H4 D (.lst (acc ++ [y])))) →
      g x (wipe σ vs) H2 fun σ2 H3 => wipe σ2 vs = wipe σ vs ∧ te σ2 H3 fun y H5 => ∃ acc, H5 D = some (.lst acc) ∧ acc.length < sizeLine ∧ Nx (upd H5 D (.lst (acc ++ [y]))))
    (hd : ∀ H' ys, Stp T [] H0 H' → H' D = some (.lst ys) → A xs.length H' ys → Qd H') :
    ∃ W : Nat → Nat → Hp → Prop, (∃ m, W 0 m (upd H1 D (.lst []))) ∧ ∀ i m H, W i m H →
      ((Itl K a).stop i H ∧ Qd H) ∨ ((Itl K a).go i H ∧ ∃ Nx : Hp → Prop, (∀ H', Nx H' → ∃ m', m' < m ∧ W (i + 1) m' H') ∧ ∀ x H', (Itl K a).yld i H x H' → g x (wipe σ vs) H' fun σ2 H2 => wipe σ2 vs = wipe σ vs ∧ tYes σ2 H2 fun b H3 =>
        if b = true then te σ2 H3 fun y H4 => ∃ acc, H4 D = some (.lst acc) ∧ acc.length < sizeLine ∧ Nx (upd H4 D (.lst (acc ++ [y]))) else Nx H3) :=
  lc_list0 (tt := tYes) e0 hD ha hn A A0 At (fun i x H2 Nx hx e k _ => hs i x H2 Nx hx e k) hd
end

/-! ### trees: a leaf ('name', free), a group ('', (parts)) -/
inductive Tr where
  | leaf (nm : Str) (fr : Bool)
  | grp (ps : List Tr)
mutual
inductive RT (H : Hp) : V → Tr → Prop
  | leaf {a : Addr} {nm : Str} {fr : Bool} : H a = some (.tup [.str nm, .bl fr]) → RT H (.ref a) (.leaf nm fr)
  | grp {a q : Addr} {vs : List V} {ps : List Tr} : H a = some (.tup [.str "", .ref q]) → H q = some (.tup vs) → RTs H vs ps → RT H (.ref a) (.grp ps)
inductive RTs (H : Hp) : List V → List Tr → Prop
  | nil : RTs H [] []
  | cons {v : V} {vs : List V} {t : Tr} {ts : List Tr} : RT H v t → RTs H vs ts → RTs H (v :: vs) (t :: ts)
end
section
variable {H H1 : Hp}
mutual
theorem RT.tup (e : Tup H H1) : ∀ {v : V} {t : Tr}, RT H v t → RT H1 v t
  | _, _, .leaf h => .leaf (e _ _ h)
  | _, _, .grp h1 h2 h3 => .grp (e _ _ h1) (e _ _ h2) (RTs.tup e h3)
theorem RTs.tup (e : Tup H H1) : ∀ {vs : List V} {ts : List Tr}, RTs H vs ts → RTs H1 vs ts
  | _, _, .nil => .nil
  | _, _, .cons h t => .cons (h.tup e) (RTs.tup e t)
end
theorem RTs.length : ∀ {vs : List V} {ts : List Tr}, RTs H vs ts → vs.length = ts.length
  | _, _, .nil => rfl
  | _, _, .cons _ t => congrArg (· + 1) t.length
theorem RTs.get : ∀ {vs : List V} {ts : List Tr} {i : Nat} {v : V}, RTs H vs ts → vs[i]? = some v → ∃ t, ts[i]? = some t ∧ RT H v t
  | _, _, _, _, .nil, h => by simp at h
  | _, _, 0, _, .cons r _, h => by
    simp at h
    subst h
    exact ⟨_, rfl, r⟩
  | _, _, i + 1, _, .cons _ r, h => by
    obtain ⟨t, h1, h2⟩ := RTs.get (i := i) r (by simpa using h)
    exact ⟨t, by simpa using h1, h2⟩
theorem RTs.getV : ∀ {vs : List V} {ts : List Tr} {i : Nat} {t : Tr}, RTs H vs ts → ts[i]? = some t → ∃ v, vs[i]? = some v ∧ RT H v t
  | _, _, _, _, .nil, h => by simp at h
  | _, _, 0, _, .cons r _, h => by
    simp at h
    subst h
    exact ⟨_, rfl, r⟩
  | _, _, i + 1, _, .cons _ r, h => by
    obtain ⟨t, h1, h2⟩ := RTs.getV (i := i) r (by simpa using h)
    exact ⟨t, by simpa using h1, h2⟩
theorem RTs.append : ∀ {vs ws : List V} {ts us : List Tr}, RTs H vs ts → RTs H ws us → RTs H (vs ++ ws) (ts ++ us)
  | _, _, _, _, .nil, s => s
  | _, _, _, _, .cons h t, s => .cons h (t.append s)
theorem RTs.take : ∀ {vs : List V} {ts : List Tr} (n : Nat), RTs H vs ts → RTs H (vs.take n) (ts.take n)
  | _, _, 0, _ => .nil
  | _, _, _ + 1, .nil => .nil
  | _, _, n + 1, .cons h t => .cons h (RTs.take n t)
theorem RTs.drop : ∀ {vs : List V} {ts : List Tr} (n : Nat), RTs H vs ts → RTs H (vs.drop n) (ts.drop n)
  | _, _, 0, h => h
  | _, _, _ + 1, .nil => .nil
  | _, _, n + 1, .cons _ t => RTs.drop n t
theorem RTs.eraseIdx : ∀ {vs : List V} {ts : List Tr} (n : Nat), RTs H vs ts → RTs H (vs.eraseIdx n) (ts.eraseIdx n)
  | _, _, _, .nil => .nil
  | _, _, 0, .cons _ t => t
  | _, _, n + 1, .cons h t => .cons h (RTs.eraseIdx n t)
end
end LB

/-! Plain functions over trees: what the defs compute. -/
namespace LB
open PySem PySem.Spec PyProof.Rows L2 LamX LK

/-! ### texts, sorted -/
def leS (a b : Str) : Bool := decide (a.cps.toList ≤ b.cps.toList)
def sortS (ws : List Str) : List Str := ws.mergeSort leS
theorem str_ext {a b : Str} (h : a.cps.toList = b.cps.toList) : a = b := by
  cases a
  cases b
  simp only at h
  congr
  exact Array.toList_inj.mp h
theorem leS_total (a b : Str) : (leS a b || leS b a) = true := by
  unfold leS
  rcases List.le_total (a.cps.toList) (b.cps.toList) with h | h <;> simp [h]
theorem leS_trans (a b c : Str) (h1 : leS a b = true) (h2 : leS b c = true) : leS a c = true := by
  unfold leS at *
  exact decide_eq_true (List.le_trans (of_decide_eq_true h1) (of_decide_eq_true h2))
theorem leS_anti (a b : Str) (h1 : leS a b = true) (h2 : leS b a = true) : a = b := by
  unfold leS at *
  exact str_ext (List.le_antisymm (of_decide_eq_true h1) (of_decide_eq_true h2))
theorem sortS_perm (ws : List Str) : (sortS ws).Perm ws := List.mergeSort_perm ..
theorem sortS_len (ws : List Str) : (sortS ws).length = ws.length := (sortS_perm ws).length_eq
theorem sortS_pw (ws : List Str) : (sortS ws).Pairwise (fun a b => leS a b = true) := List.pairwise_mergeSort (le := leS) leS_trans leS_total ws
theorem pw_perm_eq {α : Type} {le : α → α → Bool} (anti : ∀ a b, le a b = true → le b a = true → a = b) {xs ys : List α} (p : xs.Perm ys) (hx : xs.Pairwise (fun a b => le a b = true)) (hy : ys.Pairwise (fun a b => le a b = true)) : xs = ys :=
  p.eq_of_pairwise (fun a b _ _ => anti a b) hx hy
theorem sortS_of {xs ys : List Str} (p : ys.Perm xs) (h : ys.Pairwise (fun a b => leS a b = true)) : ys = sortS xs :=
  pw_perm_eq leS_anti (p.trans (sortS_perm xs).symm) h (sortS_pw xs)
theorem sortS_congr {xs ys : List Str} (p : xs.Perm ys) : sortS xs = sortS ys := sortS_of ((sortS_perm xs).trans p) (sortS_pw xs)
theorem ltCps_eq : ∀ a b : List Nat, PySem.Spec.ltCps a b = decide (a < b)
  | [], [] => by simp [PySem.Spec.ltCps]
  | [], _ :: _ => by simp [PySem.Spec.ltCps]
  | _ :: _, [] => by simp [PySem.Spec.ltCps]
  | a :: r, b :: t => by
    unfold PySem.Spec.ltCps
    rw [ltCps_eq r t]
    simp only [List.cons_lt_cons_iff, Bool.decide_or, Bool.decide_and, Nat.beq_eq_true_eq]
    by_cases h : a = b <;> simp [h]
theorem rising_pw : ∀ (r : List Str) (x : Str), risingS x r = true → (x :: r).Pairwise (fun a b => leS a b = true)
  | [], x, _ => by simp
  | y :: r, x, h => by
    have h2 : (!ltCps y.cps.toList x.cps.toList) = true ∧ risingS y r = true := by
      unfold risingS at h
      simpa using h
    have ih := rising_pw r y h2.2
    have hxy : leS x y = true := by
      unfold leS
      have h3 := h2.1
      rw [ltCps_eq] at h3
      simpa using h3
    refine List.pairwise_cons.mpr ⟨fun z hz => ?_, ih⟩
    rcases List.mem_cons.mp hz with rfl | hz
    · exact hxy
    · exact leS_trans _ _ _ hxy ((List.pairwise_cons.mp ih).1 z hz)
theorem sortedS_pw {ys : List Str} (h : sortedS ys = true) : ys.Pairwise (fun a b => leS a b = true) := by
  cases ys with
  | nil => exact .nil
  | cons x r => exact rising_pw r x h

/-! ### names -/
def letters : List Nat := (List.range 26).map (· + 97)
def digits : List Nat := (List.range 10).map (· + 48)
def barred : List Str := ["put", "take", "by", "without", "first", "last", "ahead", "behind", "strict", "turn", "due", "share", "newest", "past", "copy", "to", "on", "with", "as", "of", "done"]
/-- a name, by its signs -/
def isNm (w : Str) : Bool := decide (1 ≤ w.length) && decide (w.length ≤ 8) && !barred.contains w && (match w.cps.toList with
  | [] => false
  | c :: r => letters.contains c && r.all fun d => letters.contains d || digits.contains d)

/-! ### trees -/
mutual
def Tr.under : Tr → List Str
  | .leaf nm _ => [nm]
  | .grp ps => sortS (underL ps)
def underL : List Tr → List Str
  | [] => []
  | t :: ts => t.under ++ underL ts
end
mutual
def Tr.hgt : Tr → Nat
  | .leaf _ _ => 0
  | .grp ps => 1 + hgtL ps
def hgtL : List Tr → Nat
  | [] => 0
  | t :: ts => max t.hgt (hgtL ts)
end
mutual
/-- the number of leaves -/
def Tr.lv : Tr → Nat
  | .leaf _ _ => 1
  | .grp ps => lvL ps
def lvL : List Tr → Nat
  | [] => 0
  | t :: ts => t.lv + lvL ts
end
mutual
/-- names are names, groups have two parts -/
def Tr.good : Tr → Prop
  | .leaf nm _ => isNm nm = true
  | .grp ps => 2 ≤ ps.length ∧ goodL ps
def goodL : List Tr → Prop
  | [] => True
  | t :: ts => t.good ∧ goodL ts
end
mutual
theorem under_len : ∀ t : Tr, t.under.length = t.lv
  | .leaf _ _ => rfl
  | .grp ps => by
    show (sortS (underL ps)).length = lvL ps
    rw [sortS_len]
    exact underL_len ps
theorem underL_len : ∀ ts : List Tr, (underL ts).length = lvL ts
  | [] => rfl
  | t :: ts => by
    show (t.under ++ underL ts).length = t.lv + lvL ts
    rw [List.length_append, under_len t, underL_len ts]
end
theorem goodL_mem : ∀ {ts : List Tr}, goodL ts ↔ ∀ t ∈ ts, t.good
  | [] => by simp [goodL]
  | t :: ts => by
    unfold goodL
    rw [goodL_mem]
    simp
theorem lvL_mem : ∀ {ts : List Tr} {t : Tr}, t ∈ ts → t.lv ≤ lvL ts
  | t :: ts, u, h => by
    unfold lvL
    rcases List.mem_cons.mp h with rfl | h
    · omega
    · have := lvL_mem h
      omega
theorem hgtL_mem : ∀ {ts : List Tr} {t : Tr}, t ∈ ts → t.hgt ≤ hgtL ts
  | t :: ts, u, h => by
    unfold hgtL
    rcases List.mem_cons.mp h with rfl | h
    · omega
    · have := hgtL_mem h
      omega
theorem lvL_append (xs ys : List Tr) : lvL (xs ++ ys) = lvL xs + lvL ys := by
  induction xs with
  | nil => simp [lvL]
  | cons t ts ih => simp only [List.cons_append, lvL, ih]; omega
theorem underL_append (xs ys : List Tr) : underL (xs ++ ys) = underL xs ++ underL ys := by
  induction xs with
  | nil => simp [underL]
  | cons t ts ih => simp only [List.cons_append, underL, ih, List.append_assoc]
theorem lv_pos : ∀ {t : Tr}, t.good → 1 ≤ t.lv
  | .leaf _ _, _ => Nat.le_refl _
  | .grp ps, h => by
    obtain ⟨h1, h2⟩ := (show 2 ≤ ps.length ∧ goodL ps from h)
    cases ps with
    | nil => simp at h1
    | cons t ts =>
      have := lv_pos h2.1
      show 1 ≤ t.lv + lvL ts
      omega
theorem isNm_ne {w : Str} (h : isNm w = true) : w ≠ "" := by
  rintro rfl
  revert h
  decide +kernel
theorem isNm_len {w : Str} (h : isNm w = true) : 1 ≤ w.length ∧ w.length ≤ 8 := by
  unfold isNm at h
  simp only [Bool.and_eq_true, decide_eq_true_eq] at h
  exact ⟨h.1.1.1, h.1.1.2⟩
theorem take_snoc {α : Type} {xs : List α} {i : Nat} {x : α} (h : xs[i]? = some x) : xs.take (i + 1) = xs.take i ++ [x] := by
  rw [List.take_add_one, h]
  rfl
theorem underL_snoc {ps : List Tr} {i : Nat} {t : Tr} (h : ps[i]? = some t) : underL (ps.take (i + 1)) = underL (ps.take i) ++ t.under := by
  rw [take_snoc h, underL_append]
  simp [underL]
theorem lvL_take (ps : List Tr) (i : Nat) : lvL (ps.take i) ≤ lvL ps := by
  have := lvL_append (ps.take i) (ps.drop i)
  rw [List.take_append_drop] at this
  omega
end LB

/-! sorted with a pure key: what is asked; the order of forms; groups. -/
namespace LB
open PySem PySem.Spec PyProof.Rows L2 LamX LK

section
variable {K : PySem.W.Frag} {T : TBs} {q : Str} {Nl : List Str} {tb : TE} {Q : VK} {H1 : Hp} {l : Addr} {β : Type} {bs : List β} {val : β → V}
/-- the lambda changes nothing that was there -/
theorem sortL_pure {key : β → PyData} (hl : SqL K H1 l (bs.map val)) (ht : Tabs T H1) (ha : PySem.W.AllAlike (bs.map key)) (hs : PySem.W.Sortable (bs.map key)) (hd : ∀ b ∈ bs, (key b).depth ≤ 2)
    (hstep : ∀ b ∈ bs, ∀ H2 H3, Stp T [] H1 H2 → Stp T [] H2 H3 → tb (L2.start Nl [val b]) H3 fun v H4 => KeyAt H4 v (key b) ∧ Stp T [] H2 H4)
    (fin : ∀ H3, Stp T [] H1 H3 → ∀ p, H3 p = none → Q (.ref p) (upd H3 p (.lst ((bs.mergeSort (PySem.W.dataLe false key)).map val)))) :
    SortG K T q Nl tb Q (.ref l) H1 := by
  refine ⟨l, β, bs, val, key, rfl, hl, ht, ha, hs, hd, fun c' H2 hx h2 hc => ?_⟩
  have e0 : Stp T [] H1 H2 := .lam hx h2
  refine ⟨fun _ H3 => Stp T [] H2 H3, .refl, fun i H3 w => ?_, fun i b H3 hb w => ?_, fun H3 w p hp => fin H3 (e0.trans w) p hp⟩
  · exact w.ex c' _ hc (fun ps z => by cases z) (by simp)
  · exact hstep b (List.mem_of_getElem? hb) H2 H3 e0 w
theorem alike_str {f : β → Str} : PySem.W.AllAlike (bs.map fun b => PyData.str (f b)) := PySem.W.AllAlike.of fun b b' => rfl
theorem srt_str {f : β → Str} : PySem.W.Sortable (bs.map fun b => PyData.str (f b)) := PySem.W.Sortable.others fun b => ⟨fun z => (by cases z), fun xs z => (by cases z)⟩
theorem sortL_str {f : β → Str} (hl : SqL K H1 l (bs.map val)) (ht : Tabs T H1)
    (hstep : ∀ b ∈ bs, ∀ H2 H3, Stp T [] H1 H2 → Stp T [] H2 H3 → tb (L2.start Nl [val b]) H3 fun v H4 => KeyAt H4 v (.str (f b)) ∧ Stp T [] H2 H4)
    (fin : ∀ H3, Stp T [] H1 H3 → ∀ p, H3 p = none → Q (.ref p) (upd H3 p (.lst ((bs.mergeSort fun a b => leS (f a) (f b)).map val)))) :
    SortG K T q Nl tb Q (.ref l) H1 :=
  sortL_pure (key := fun b => .str (f b)) hl ht alike_str srt_str (fun b _ => by simp [PyData.depth]) hstep
    (by
      intro H3 e p hp
      rw [PySem.W.dataLe_str]
      exact fin H3 e p hp)
end

/-! ### the order of forms -/
def leF (a b : Str) : Bool := decide (b.length < a.length ∨ (a.length = b.length ∧ a.cps.toList ≤ b.cps.toList))
def keyF (s : Str) : PyData := .tuple [.int (-(s.length : Int)), .str s]
theorem dataLe_F : PySem.W.dataLe false keyF = leF := by
  funext p q
  rw [PySem.W.dataLe_eq]
  show (!PySem.W.dataLt (keyF q) (keyF p)) = leF p q
  unfold keyF leF
  rw [PySem.W.dataLt_pair (by rfl) (by rfl), PySem.W.dataLt_int, PySem.W.dataLt_str]
  simp only [PyData.eqv, beq_iff_eq]
  by_cases h1 : p.length = q.length
  · have h2 : (-(q.length : Int)) = -(p.length : Int) := by omega
    by_cases h3 : q = p
    · subst h3
      simp [h1]
    · simp [h1, h3, PySem.W.not_lt_str]
      have := PySem.W.not_lt_str p.cps.toList q.cps.toList
      simpa using this
  · have h2 : ¬ (-(q.length : Int)) = -(p.length : Int) := by omega
    rw [if_neg h2]
    by_cases h3 : q.length < p.length
    · have h4 : ¬ (-(q.length : Int)) < -(p.length : Int) := by omega
      rw [decide_eq_false h4, decide_eq_true (Or.inl h3)]
      rfl
    · have h4 : (-(q.length : Int)) < -(p.length : Int) := by omega
      rw [decide_eq_true h4]
      symm
      refine decide_eq_false ?_
      rintro (z | ⟨z, _⟩)
      · exact h3 z
      · exact h1 z
def sortF (ws : List Str) : List Str := ws.mergeSort leF
theorem leF_total (a b : Str) : (leF a b || leF b a) = true := by
  unfold leF
  rcases List.le_total (a.cps.toList) (b.cps.toList) with h | h <;> simp [h] <;> omega
theorem leF_trans (a b c : Str) (h1 : leF a b = true) (h2 : leF b c = true) : leF a c = true := by
  unfold leF at *
  have h1 := of_decide_eq_true h1
  have h2 := of_decide_eq_true h2
  refine decide_eq_true ?_
  rcases h1 with h1 | ⟨h1, h3⟩ <;> rcases h2 with h2 | ⟨h2, h4⟩
  · exact .inl (by omega)
  · exact .inl (by omega)
  · exact .inl (by omega)
  · exact .inr ⟨by omega, List.le_trans h3 h4⟩
theorem leF_anti (a b : Str) (h1 : leF a b = true) (h2 : leF b a = true) : a = b := by
  unfold leF at *
  have h1 := of_decide_eq_true h1
  have h2 := of_decide_eq_true h2
  rcases h1 with h1 | ⟨h1, h3⟩ <;> rcases h2 with h2 | ⟨h2, h4⟩
  · omega
  · omega
  · omega
  · exact str_ext (List.le_antisymm h3 h4)
theorem sortF_perm (ws : List Str) : (sortF ws).Perm ws := List.mergeSort_perm ..
theorem sortF_pw (ws : List Str) : (sortF ws).Pairwise (fun a b => leF a b = true) := List.pairwise_mergeSort (le := leF) leF_trans leF_total ws
theorem sortF_of {xs ys : List Str} (p : ys.Perm xs) (h : ys.Pairwise (fun a b => leF a b = true)) : ys = sortF xs :=
  pw_perm_eq leF_anti (p.trans (sortF_perm xs).symm) h (sortF_pw xs)
theorem sortF_congr {xs ys : List Str} (p : xs.Perm ys) : sortF xs = sortF ys := sortF_of ((sortF_perm xs).trans p) (sortF_pw xs)

/-! ### groups -/
def Tr.key (t : Tr) : Str := t.under.headD ""
def leT (a b : Tr) : Bool := leS a.key b.key
def sortT (ts : List Tr) : List Tr := ts.mergeSort leT
def group (ts : List Tr) : Tr := .grp (sortT ts)
theorem sortT_perm (ts : List Tr) : (sortT ts).Perm ts := List.mergeSort_perm ..
theorem lvL_perm {xs ys : List Tr} (p : xs.Perm ys) : lvL xs = lvL ys := by
  induction p with
  | nil => rfl
  | cons x _ ih => simp only [lvL, ih]
  | swap x y _ => simp only [lvL]; omega
  | trans _ _ a b => rw [a, b]
theorem hgtL_perm {xs ys : List Tr} (p : xs.Perm ys) : hgtL xs = hgtL ys := by
  induction p with
  | nil => rfl
  | cons x _ ih => simp only [hgtL, ih]
  | swap x y _ => simp only [hgtL]; omega
  | trans _ _ a b => rw [a, b]
theorem underL_perm {xs ys : List Tr} (p : xs.Perm ys) : (underL xs).Perm (underL ys) := by
  induction p with
  | nil => exact .nil
  | cons x _ ih => simp only [underL]; exact ih.append_left _
  | swap x y l =>
    simp only [underL]
    rw [← List.append_assoc, ← List.append_assoc]
    exact List.Perm.append_right _ List.perm_append_comm
  | trans _ _ a b => exact a.trans b
theorem goodL_perm {xs ys : List Tr} (p : xs.Perm ys) : goodL xs ↔ goodL ys := by
  rw [goodL_mem, goodL_mem]
  exact ⟨fun h t m => h t (p.mem_iff.mpr m), fun h t m => h t (p.mem_iff.mp m)⟩
theorem group_lv (ts : List Tr) : (group ts).lv = lvL ts := lvL_perm (sortT_perm ts)
theorem group_hgt (ts : List Tr) : (group ts).hgt = 1 + hgtL ts := by
  show 1 + hgtL (sortT ts) = _
  rw [hgtL_perm (sortT_perm ts)]
theorem group_under (ts : List Tr) : (group ts).under = sortS (underL ts) := sortS_congr (underL_perm (sortT_perm ts))
theorem group_good {ts : List Tr} (h : goodL ts) (h2 : 2 ≤ ts.length) : (group ts).good := by
  show 2 ≤ (sortT ts).length ∧ goodL (sortT ts)
  rw [(sortT_perm ts).length_eq]
  exact ⟨h2, (goodL_perm (sortT_perm ts)).mpr h⟩
theorem rts_of {H : Hp} : ∀ {bs : List (V × Tr)}, (∀ b ∈ bs, RT H b.1 b.2) → RTs H (bs.map (·.1)) (bs.map (·.2))
  | [], _ => .nil
  | b :: bs, h => .cons (h b (by simp)) (rts_of fun c m => h c (List.mem_cons_of_mem _ m))
theorem rts_zip {H : Hp} : ∀ {vs : List V} {ts : List Tr}, RTs H vs ts → ∃ bs : List (V × Tr), vs = bs.map (·.1) ∧ ts = bs.map (·.2) ∧ ∀ b ∈ bs, RT H b.1 b.2
  | _, _, .nil => ⟨[], rfl, rfl, fun b m => by simp at m⟩
  | _, _, .cons (v := v) (t := t) h r => by
    obtain ⟨bs, rfl, rfl, hb⟩ := rts_zip r
    refine ⟨(v, t) :: bs, rfl, rfl, fun b m => ?_⟩
    rcases List.mem_cons.mp m with rfl | m
    · exact h
    · exact hb b m
theorem sort_zip (bs : List (V × Tr)) : (bs.mergeSort fun a b => leT a.2 b.2).map (·.2) = sortT (bs.map (·.2)) := PySem.W.sort_maps (s := leT) (fun b : V × Tr => b.2) fun _ _ _ _ => rfl
theorem key_at {t : Tr} (h : t.good) : atI (t.under.map V.str) 0 = some (.str t.key) := by
  have h1 := lv_pos h
  rw [← under_len t] at h1
  unfold Tr.key
  cases e : t.under with
  | nil => rw [e] at h1; simp at h1
  | cons x r => exact atI_nat (j := 0) rfl
theorem group_rt {H : Hp} {bs : List (V × Tr)} {a q : Addr} (h1 : H a = some (.tup [.str "", .ref q])) (h2 : H q = some (.tup ((bs.mergeSort fun a b => leS a.2.key b.2.key).map (·.1)))) (hb : ∀ b ∈ bs, RT H b.1 b.2) : RT H (.ref a) (group (bs.map (·.2))) := by
  unfold group
  rw [← sort_zip bs]
  exact .grp h1 h2 (rts_of fun b m => hb b ((List.mergeSort_perm ..).mem_iff.mp m))
end LB

/-! What the law's tree functions compute, in plain words; bounds of texts. -/
namespace LB
open PySem PySem.Spec PyProof.Rows L2 LamX LK

theorem lenA (a b : Str) : (a ++ b).length = a.length + b.length := PySem.Str.length_append a b
theorem joinE (sep : Str) (ts : List Str) : Txt.join sep ts = Str.join sep ts := StrLaws.glued_eq_join sep ts
theorem lenJ (sep : Str) : ∀ ts : List Str, (Txt.join sep ts).length ≤ (ts.map (·.length)).sum + (ts.length - 1) * sep.length
  | [] => by show (0 : Nat) ≤ _; omega
  | [x] => by
    show x.length ≤ _
    simp
  | x :: y :: r => by
    have ih := lenJ sep (y :: r)
    rw [joinE] at ih ⊢
    show (x ++ sep ++ Str.join sep (y :: r)).length ≤ _
    rw [lenA, lenA]
    simp only [List.map_cons, List.sum_cons, List.length_cons] at *
    have : (r.length + 1 + 1 - 1) * sep.length = (r.length + 1 - 1) * sep.length + sep.length := by
      rw [show r.length + 1 + 1 - 1 = (r.length + 1 - 1) + 1 by omega, Nat.succ_mul]
    omega

theorem mem_sum {n : Nat} : ∀ {l : List Nat}, n ∈ l → n ≤ l.sum
  | x :: r, h => by
    rcases List.mem_cons.mp h with rfl | h
    · simp
    · have := mem_sum h
      simp only [List.sum_cons]
      omega
mutual
def Tr.text : Tr → Str
  | .leaf nm fr => if fr then nm else nm ++ "|"
  | .grp ps => "( " ++ Txt.join " " (textL ps) ++ " )"
def textL : List Tr → List Str
  | [] => []
  | t :: ts => t.text :: textL ts
end
mutual
def Tr.form : Tr → Str
  | .leaf _ fr => if fr then "o" else "|"
  | .grp ps => "(" ++ Txt.join "" (sortF (formL ps)) ++ ")"
def formL : List Tr → List Str
  | [] => []
  | t :: ts => t.form :: formL ts
end
mutual
def Tr.nodes : Tr → List Tr
  | .leaf nm fr => [.leaf nm fr]
  | .grp ps => .grp ps :: nodesL ps
def nodesL : List Tr → List Tr
  | [] => []
  | t :: ts => t.nodes ++ nodesL ts
end
mutual
def Tr.turn (f : Str → Str) : Tr → Tr
  | .leaf nm fr => .leaf (f nm) fr
  | .grp ps => group (turnL f ps)
def turnL (f : Str → Str) : List Tr → List Tr
  | [] => []
  | t :: ts => t.turn f :: turnL f ts
end
mutual
def Tr.swap (w : Str) : Tr → Tr
  | .leaf nm fr => .leaf nm (if nm = w then !fr else fr)
  | .grp ps => group (swapL w ps)
def swapL (w : Str) : List Tr → List Tr
  | [] => []
  | t :: ts => t.swap w :: swapL w ts
end
def heap1 (ts : List Tr) : List Tr := if ts.length < 2 then ts else [group ts]
mutual
def Tr.left (ws : List Str) : Tr → List Tr
  | .leaf nm fr => if nm ∈ ws then [.leaf nm fr] else []
  | .grp ps => heap1 (leftL ws ps)
def leftL (ws : List Str) : List Tr → List Tr
  | [] => []
  | t :: ts => t.left ws ++ leftL ws ts
end
theorem textL_map : ∀ ts : List Tr, textL ts = ts.map Tr.text
  | [] => rfl
  | t :: ts => by rw [textL, textL_map ts]; rfl
theorem formL_map : ∀ ts : List Tr, formL ts = ts.map Tr.form
  | [] => rfl
  | t :: ts => by rw [formL, formL_map ts]; rfl
theorem turnL_map (f : Str → Str) : ∀ ts : List Tr, turnL f ts = ts.map (Tr.turn f)
  | [] => rfl
  | t :: ts => by rw [turnL, turnL_map f ts]; rfl
theorem swapL_map (w : Str) : ∀ ts : List Tr, swapL w ts = ts.map (Tr.swap w)
  | [] => rfl
  | t :: ts => by rw [swapL, swapL_map w ts]; rfl
theorem nodesL_append (xs ys : List Tr) : nodesL (xs ++ ys) = nodesL xs ++ nodesL ys := by
  induction xs with
  | nil => simp [nodesL]
  | cons t ts ih => simp only [List.cons_append, nodesL, ih, List.append_assoc]
theorem leftL_append (ws : List Str) (xs ys : List Tr) : leftL ws (xs ++ ys) = leftL ws xs ++ leftL ws ys := by
  induction xs with
  | nil => simp [leftL]
  | cons t ts ih => simp only [List.cons_append, leftL, ih, List.append_assoc]
theorem nodesL_snoc {ps : List Tr} {i : Nat} {t : Tr} (h : ps[i]? = some t) : nodesL (ps.take (i + 1)) = nodesL (ps.take i) ++ t.nodes := by
  rw [take_snoc h, nodesL_append]
  simp [nodesL]
theorem leftL_snoc {ws : List Str} {ps : List Tr} {i : Nat} {t : Tr} (h : ps[i]? = some t) : leftL ws (ps.take (i + 1)) = leftL ws (ps.take i) ++ t.left ws := by
  rw [take_snoc h, leftL_append]
  simp [leftL]
/-! ### bounds -/
mutual
theorem text_len : ∀ {t : Tr}, t.good → t.text.length + 5 ≤ 14 * t.lv
  | .leaf nm fr, h => by
    have h8 := (isNm_len h).2
    show (if fr then nm else nm ++ "|").length + 5 ≤ 14 * 1
    cases fr
    · show (nm ++ "|").length + 5 ≤ 14
      rw [lenA]
      have : ("|" : Str).length = 1 := by decide
      omega
    · show nm.length + 5 ≤ 14
      omega
  | .grp ps, h => by
    have h2 : 2 ≤ ps.length := h.1
    have ih := textL_len h.2
    show ("( " ++ Txt.join " " (textL ps) ++ " )" : Str).length + 5 ≤ 14 * lvL ps
    rw [lenA, lenA]
    have h3 := lenJ " " (textL ps)
    have h4 : (textL ps).length = ps.length := by rw [textL_map, List.length_map]
    have e1 : ("( " : Str).length = 2 := by decide
    have e2 : (" )" : Str).length = 2 := by decide
    have e3 : (" " : Str).length = 1 := by decide
    rw [h4, e3] at h3
    omega
theorem textL_len : ∀ {ts : List Tr}, goodL ts → ((textL ts).map (·.length)).sum + 5 * ts.length ≤ 14 * lvL ts
  | [], _ => by simp [textL, lvL]
  | t :: ts, h => by
    have a := text_len h.1
    have b := textL_len h.2
    simp only [textL, lvL, List.map_cons, List.sum_cons, List.length_cons]
    omega
end
theorem formS_len (ts : List Tr) : ((sortF (formL ts)).map (·.length)).sum = ((formL ts).map (·.length)).sum := ((sortF_perm _).map _).sum_nat
mutual
theorem form_len : ∀ {t : Tr}, t.good → t.form.length + 2 ≤ 3 * t.lv
  | .leaf nm fr, h => by
    cases fr
    · exact (by decide : ("|" : Str).length + 2 ≤ 3)
    · exact (by decide : ("o" : Str).length + 2 ≤ 3)
  | .grp ps, h => by
    have h2 : 2 ≤ ps.length := h.1
    have ih := formL_len h.2
    show ("(" ++ Txt.join "" (sortF (formL ps)) ++ ")" : Str).length + 2 ≤ 3 * lvL ps
    rw [lenA, lenA]
    have h3 := lenJ "" (sortF (formL ps))
    rw [formS_len] at h3
    have e1 : ("(" : Str).length = 1 := by decide
    have e2 : (")" : Str).length = 1 := by decide
    have e3 : ("" : Str).length = 0 := by decide
    rw [e3] at h3
    omega
theorem formL_len : ∀ {ts : List Tr}, goodL ts → ((formL ts).map (·.length)).sum + 2 * ts.length ≤ 3 * lvL ts
  | [], _ => by simp [formL, lvL]
  | t :: ts, h => by
    have a := form_len h.1
    have b := formL_len h.2
    simp only [formL, lvL, List.map_cons, List.sum_cons, List.length_cons]
    omega
end
mutual
theorem nodes_len : ∀ {t : Tr}, t.good → t.nodes.length + 1 ≤ 2 * t.lv
  | .leaf _ _, _ => (by decide : 1 + 1 ≤ 2 * 1)
  | .grp ps, h => by
    have h2 : 2 ≤ ps.length := h.1
    have ih := nodesL_len h.2
    show (nodesL ps).length + 1 + 1 ≤ 2 * lvL ps
    omega
theorem nodesL_len : ∀ {ts : List Tr}, goodL ts → (nodesL ts).length + ts.length ≤ 2 * lvL ts
  | [], _ => by simp [nodesL, lvL]
  | t :: ts, h => by
    have a := nodes_len h.1
    have b := nodesL_len h.2
    simp only [nodesL, lvL, List.length_append, List.length_cons]
    omega
end
mutual
theorem hgt_lv : ∀ {t : Tr}, t.good → t.hgt + 1 ≤ t.lv
  | .leaf _ _, _ => Nat.le_refl _
  | .grp [], h => absurd h.1 (by simp)
  | .grp (t :: ts), h => by
    have h2 : 2 ≤ (t :: ts).length := h.1
    have ih := hgtL_lv h.2
    have hl := len_lv h.2.2
    show 1 + max t.hgt (hgtL ts) + 1 ≤ t.lv + lvL ts
    have a := hgt_lv h.2.1
    have b := hgtL_lv h.2.2
    have c := lv_pos h.2.1
    simp only [List.length_cons] at h2
    omega
theorem hgtL_lv : ∀ {ts : List Tr}, goodL ts → hgtL ts + ts.length ≤ lvL ts
  | [], _ => Nat.le_refl _
  | t :: ts, h => by
    have a := hgt_lv h.1
    have b := hgtL_lv h.2
    have d := len_lv h.2
    simp only [hgtL, lvL, List.length_cons]
    omega
theorem len_lv : ∀ {ts : List Tr}, goodL ts → ts.length ≤ lvL ts
  | [], _ => Nat.le_refl _
  | t :: ts, h => by
    have a := lv_pos h.1
    have b := len_lv h.2
    simp only [lvL, List.length_cons]
    omega
end
theorem sortS_mem {w : Str} {ws : List Str} : w ∈ sortS ws ↔ w ∈ ws := (sortS_perm ws).mem_iff
theorem underL_mem {w : Str} : ∀ {ts : List Tr}, w ∈ underL ts ↔ ∃ t ∈ ts, w ∈ t.under
  | [] => by simp [underL]
  | t :: ts => by simp only [underL, List.mem_append, underL_mem (ts := ts), List.mem_cons, exists_eq_or_imp]
theorem mem_under {w : Str} {t : Tr} {ps : List Tr} (m : t ∈ ps) (h : w ∈ t.under) : w ∈ (Tr.grp ps).under := sortS_mem.mpr (underL_mem.mpr ⟨t, m, h⟩)
mutual
theorem turn_lv (f : Str → Str) : ∀ t : Tr, (t.turn f).lv = t.lv
  | .leaf _ _ => rfl
  | .grp ps => by
    show (group (turnL f ps)).lv = lvL ps
    rw [group_lv, turnL_lv]
theorem turnL_lv (f : Str → Str) : ∀ ts : List Tr, lvL (turnL f ts) = lvL ts
  | [] => rfl
  | t :: ts => by simp only [turnL, lvL, turn_lv f t, turnL_lv f ts]
end
mutual
theorem turn_hgt (f : Str → Str) : ∀ t : Tr, (t.turn f).hgt = t.hgt
  | .leaf _ _ => rfl
  | .grp ps => by
    show (group (turnL f ps)).hgt = 1 + hgtL ps
    rw [group_hgt, turnL_hgt]
theorem turnL_hgt (f : Str → Str) : ∀ ts : List Tr, hgtL (turnL f ts) = hgtL ts
  | [] => rfl
  | t :: ts => by simp only [turnL, hgtL, turn_hgt f t, turnL_hgt f ts]
end
mutual
theorem turn_good {f : Str → Str} : ∀ {t : Tr}, t.good → (∀ w ∈ t.under, isNm (f w) = true) → (t.turn f).good
  | .leaf nm _, _, h => h nm (by simp [Tr.under])
  | .grp ps, g, h => group_good (turnL_good g.2 fun w m => h w (sortS_mem.mpr m)) (by rw [turnL_map, List.length_map]; exact g.1)
theorem turnL_good {f : Str → Str} : ∀ {ts : List Tr}, goodL ts → (∀ w ∈ underL ts, isNm (f w) = true) → goodL (turnL f ts)
  | [], _, _ => trivial
  | t :: ts, g, h => ⟨turn_good g.1 fun w m => h w (List.mem_append_left _ m), turnL_good g.2 fun w m => h w (List.mem_append_right _ m)⟩
end
mutual
theorem turn_under (f : Str → Str) : ∀ t : Tr, (t.turn f).under.Perm (t.under.map f)
  | .leaf _ _ => .refl _
  | .grp ps => by
    show (group (turnL f ps)).under.Perm ((sortS (underL ps)).map f)
    rw [group_under]
    exact (sortS_perm _).trans ((turnL_under f ps).trans ((sortS_perm _).symm.map f))
theorem turnL_under (f : Str → Str) : ∀ ts : List Tr, (underL (turnL f ts)).Perm ((underL ts).map f)
  | [] => .refl _
  | t :: ts => by
    simp only [turnL, underL, List.map_append]
    exact (turn_under f t).append (turnL_under f ts)
end
mutual
theorem swap_lv (w : Str) : ∀ t : Tr, (t.swap w).lv = t.lv
  | .leaf _ _ => rfl
  | .grp ps => by
    show (group (swapL w ps)).lv = lvL ps
    rw [group_lv, swapL_lv]
theorem swapL_lv (w : Str) : ∀ ts : List Tr, lvL (swapL w ts) = lvL ts
  | [] => rfl
  | t :: ts => by simp only [swapL, lvL, swap_lv w t, swapL_lv w ts]
end
mutual
theorem swap_hgt (w : Str) : ∀ t : Tr, (t.swap w).hgt = t.hgt
  | .leaf _ _ => rfl
  | .grp ps => by
    show (group (swapL w ps)).hgt = 1 + hgtL ps
    rw [group_hgt, swapL_hgt]
theorem swapL_hgt (w : Str) : ∀ ts : List Tr, hgtL (swapL w ts) = hgtL ts
  | [] => rfl
  | t :: ts => by simp only [swapL, hgtL, swap_hgt w t, swapL_hgt w ts]
end
mutual
theorem swap_good {w : Str} : ∀ {t : Tr}, t.good → (t.swap w).good
  | .leaf nm _, h => h
  | .grp ps, g => group_good (swapL_good g.2) (by rw [swapL_map, List.length_map]; exact g.1)
theorem swapL_good {w : Str} : ∀ {ts : List Tr}, goodL ts → goodL (swapL w ts)
  | [], _ => trivial
  | t :: ts, g => ⟨swap_good g.1, swapL_good g.2⟩
end
mutual
theorem swap_under (w : Str) : ∀ t : Tr, (t.swap w).under.Perm t.under
  | .leaf _ _ => .refl _
  | .grp ps => by
    show (group (swapL w ps)).under.Perm (sortS (underL ps))
    rw [group_under]
    exact (sortS_perm _).trans ((swapL_under w ps).trans (sortS_perm _).symm)
theorem swapL_under (w : Str) : ∀ ts : List Tr, (underL (swapL w ts)).Perm (underL ts)
  | [] => .refl _
  | t :: ts => by
    simp only [swapL, underL]
    exact (swap_under w t).append (swapL_under w ts)
end
theorem heap1_lv (ts : List Tr) : lvL (heap1 ts) = lvL ts := by
  unfold heap1
  split
  · rfl
  · simp only [lvL, group_lv]; omega
theorem heap1_good {ts : List Tr} (h : goodL ts) : goodL (heap1 ts) := by
  unfold heap1
  split
  · exact h
  · exact ⟨group_good h (by omega), trivial⟩
theorem heap1_under (ts : List Tr) : (underL (heap1 ts)).Perm (underL ts) := by
  unfold heap1
  split
  · exact .refl _
  · simp only [underL, group_under, List.append_nil]
    exact sortS_perm _
theorem heap1_len (ts : List Tr) : (heap1 ts).length ≤ 1 := by
  unfold heap1
  split
  · omega
  · simp
mutual
theorem left_good {ws : List Str} : ∀ {t : Tr}, t.good → goodL (t.left ws)
  | .leaf nm fr, h => by
    unfold Tr.left
    split
    · exact ⟨h, trivial⟩
    · trivial
  | .grp ps, h => heap1_good (leftL_good h.2)
theorem leftL_good {ws : List Str} : ∀ {ts : List Tr}, goodL ts → goodL (leftL ws ts)
  | [], _ => trivial
  | t :: ts, h => by
    unfold leftL
    rw [goodL_mem]
    intro u m
    rcases List.mem_append.mp m with m | m
    · exact goodL_mem.mp (left_good h.1) u m
    · exact goodL_mem.mp (leftL_good h.2) u m
end
mutual
theorem left_lv (ws : List Str) : ∀ t : Tr, lvL (t.left ws) ≤ t.lv
  | .leaf nm fr => by
    unfold Tr.left
    split
    · exact Nat.le_refl 1
    · exact Nat.zero_le _
  | .grp ps => by
    show lvL (heap1 (leftL ws ps)) ≤ lvL ps
    rw [heap1_lv]
    exact leftL_lv ws ps
theorem leftL_lv (ws : List Str) : ∀ ts : List Tr, lvL (leftL ws ts) ≤ lvL ts
  | [] => Nat.le_refl _
  | t :: ts => by
    have a := left_lv ws t
    have b := leftL_lv ws ts
    simp only [leftL, lvL, lvL_append]
    omega
end
theorem left_len (ws : List Str) : ∀ t : Tr, (t.left ws).length ≤ 1
  | .leaf nm fr => by
    unfold Tr.left
    split <;> simp
  | .grp ps => heap1_len _
mutual
theorem left_under (ws : List Str) : ∀ t : Tr, (underL (t.left ws)).Perm (t.under.filter fun w => decide (w ∈ ws))
  | .leaf nm fr => by
    unfold Tr.left
    by_cases h : nm ∈ ws <;> simp [h, underL, Tr.under]
  | .grp ps => by
    show (underL (heap1 (leftL ws ps))).Perm ((sortS (underL ps)).filter _)
    exact (heap1_under _).trans ((leftL_under ws ps).trans ((sortS_perm _).symm.filter _))
theorem leftL_under (ws : List Str) : ∀ ts : List Tr, (underL (leftL ws ts)).Perm ((underL ts).filter fun w => decide (w ∈ ws))
  | [] => .refl _
  | t :: ts => by
    simp only [leftL, underL, underL_append, List.filter_append]
    exact (left_under ws t).append (leftL_under ws ts)
end
theorem hgtL_le {k : Nat} : ∀ {ts : List Tr}, (∀ t ∈ ts, t.hgt ≤ k) → hgtL ts ≤ k
  | [], _ => Nat.zero_le _
  | t :: ts, h => by
    have a := h t (by simp)
    have b := hgtL_le fun u m => h u (List.mem_cons_of_mem _ m)
    simp only [hgtL]
    omega
theorem hgtL_max {ps : List Tr} {m : Int} (hm : m ∈ ps.map fun t => (t.hgt : Int)) (h : ∀ y, y ∈ (ps.map fun t => (t.hgt : Int)) → y ≤ m) : m = (hgtL ps : Int) := by
  obtain ⟨t, ht, rfl⟩ := List.mem_map.mp hm
  have a := hgtL_mem ht
  have b : hgtL ps ≤ t.hgt := hgtL_le fun u hu => by
    have := h _ (List.mem_map.mpr ⟨u, hu, rfl⟩)
    omega
  omega
mutual
/-- each node: good, no higher, no more leaves, its names are names of the whole -/
theorem nodes_good : ∀ {t : Tr}, t.good → ∀ u ∈ t.nodes, u.good ∧ u.hgt ≤ t.hgt ∧ u.lv ≤ t.lv
  | .leaf nm fr, h, u, m => by
    have e : u = .leaf nm fr := List.mem_singleton.mp m
    subst e
    exact ⟨h, Nat.le_refl _, Nat.le_refl _⟩
  | .grp ps, h, u, m => by
    rcases List.mem_cons.mp m with rfl | m
    · exact ⟨h, Nat.le_refl _, Nat.le_refl _⟩
    · obtain ⟨h1, h2, h3⟩ := nodesL_good h.2 u m
      refine ⟨h1, ?_, h3⟩
      show u.hgt ≤ 1 + hgtL ps
      omega
theorem nodesL_good : ∀ {ts : List Tr}, goodL ts → ∀ u ∈ nodesL ts, u.good ∧ u.hgt ≤ hgtL ts ∧ u.lv ≤ lvL ts
  | [], _, u, m => by simp [nodesL] at m
  | t :: ts, h, u, m => by
    unfold nodesL at m
    simp only [hgtL, lvL]
    rcases List.mem_append.mp m with m | m
    · obtain ⟨h1, h2, h3⟩ := nodes_good h.1 u m
      exact ⟨h1, by omega, by omega⟩
    · obtain ⟨h1, h2, h3⟩ := nodesL_good h.2 u m
      exact ⟨h1, by omega, by omega⟩
end
end LB

/-! Trees and lists of texts as data: deep equality. -/
namespace LB
open PySem PySem.Spec PyProof.Rows L2 LamX LK
section
variable {K : PySem.W.Frag} {H : Hp} {l : Addr}
theorem dp_strs {ws : List Str} (h : H l = some (.lst (ws.map V.str))) : Dp K H (.ref l) (.list (ws.map PyData.str)) := by
  refine .lst (SqL.of h) ?_
  clear h
  induction ws with
  | nil => exact .nil
  | cons x r ih => exact .cons (.str x) ih
mutual
def Tr.data : Tr → PyData
  | .leaf nm fr => .tuple [.str nm, .bool fr]
  | .grp ps => .tuple [.str "", .tuple (dataL ps)]
def dataL : List Tr → List PyData
  | [] => []
  | t :: ts => t.data :: dataL ts
end
mutual
theorem RT.dp : ∀ {v : V} {t : Tr}, RT H v t → Dp K H v t.data
  | _, _, .leaf h => .tup (SqT.of h) (.cons (.str _) (.cons (.bl _) .nil))
  | _, _, .grp h1 h2 h3 => .tup (SqT.of h1) (.cons (.str _) (.cons (.tup (SqT.of h2) (RTs.dp h3)) .nil))
theorem RTs.dp : ∀ {vs : List V} {ts : List Tr}, RTs H vs ts → DpAll K H vs (dataL ts)
  | _, _, .nil => .nil
  | _, _, .cons h t => .cons h.dp (RTs.dp t)
end
end
theorem depth_strs : ∀ ws : List Str, PyData.depthAll (ws.map PyData.str) = 0
  | [] => rfl
  | x :: r => by
    simp only [List.map_cons, PyData.depthAll, PyData.depth, depth_strs r]
    rfl
theorem ok_strs : ∀ {ws : List Str}, (∀ w ∈ ws, PyData.strOk w = true) → PyData.canLayAll0 (ws.map PyData.str) = true
  | [], _ => by simp [PyData.canLayAll0]
  | x :: r, h => by
    simp only [List.map_cons, PyData.canLayAll0, PyData.canLay0, h x (by simp), ok_strs fun w m => h w (List.mem_cons_of_mem _ m), Bool.and_self]
theorem shaped_strs {ws : List Str} (h : ∀ w ∈ ws, PyData.strOk w = true) : SeqAt.shaped (.list (ws.map PyData.str)) = true := by
  unfold SeqAt.shaped
  simp only [PyData.canLay0, PyData.depth, depth_strs, ok_strs h]
  rfl
theorem eqv_strs : ∀ {as bs : List Str}, PyData.eqvAll (as.map PyData.str) (bs.map PyData.str) = decide (as = bs)
  | [], [] => by simp [PyData.eqvAll]
  | [], _ :: _ => by simp [PyData.eqvAll]
  | _ :: _, [] => by simp [PyData.eqvAll]
  | x :: r, y :: q => by
    simp only [List.map_cons, PyData.eqvAll, PyData.eqv, eqv_strs]
    by_cases h : x = y <;> simp [h]
mutual
theorem depth_data : ∀ t : Tr, t.data.depth ≤ 2 * t.hgt + 1
  | .leaf _ _ => by simp [Tr.data, PyData.depth, PyData.depthAll]
  | .grp ps => by
    have ih := depth_dataL ps
    show _ ≤ 2 * (1 + hgtL ps) + 1
    simp only [Tr.data, PyData.depth, PyData.depthAll]
    omega
theorem depth_dataL : ∀ ts : List Tr, PyData.depthAll (dataL ts) ≤ 2 * hgtL ts + 1
  | [] => by simp [dataL, PyData.depthAll]
  | t :: ts => by
    have a := depth_data t
    have b := depth_dataL ts
    simp only [dataL, PyData.depthAll, hgtL]
    omega
end
theorem isNm_cps {w : Str} (h : isNm w = true) : ∃ c r, w.cps.toList = c :: r ∧ c ∈ letters ∧ ∀ d ∈ w.cps.toList, d ∈ letters ∨ d ∈ digits := by
  unfold isNm at h
  rw [Bool.and_eq_true] at h
  have h2 := h.2
  cases e : w.cps.toList with
  | nil => rw [e] at h2; cases h2
  | cons c r =>
    rw [e] at h2
    simp only [Bool.and_eq_true, List.contains_iff_mem, List.all_eq_true, Bool.or_eq_true] at h2
    refine ⟨c, r, rfl, h2.1, fun d m => ?_⟩
    rcases List.mem_cons.mp m with rfl | m
    · exact .inl h2.1
    · exact h2.2 d m
theorem letters_lt {c : Nat} (h : c ∈ letters) : 97 ≤ c ∧ c < 123 := by
  unfold letters at h
  obtain ⟨a, m, rfl⟩ := List.mem_map.mp h
  have := List.mem_range.mp m
  omega
theorem digits_lt {c : Nat} (h : c ∈ digits) : 48 ≤ c ∧ c < 58 := by
  unfold digits at h
  obtain ⟨a, m, rfl⟩ := List.mem_map.mp h
  have := List.mem_range.mp m
  omega
theorem isNm_ok {w : Str} (h : isNm w = true) : PyData.strOk w = true := by
  obtain ⟨_, _, _, _, ha⟩ := isNm_cps h
  unfold PyData.strOk
  rw [← Array.all_toList, List.all_eq_true]
  intro d m
  rcases ha d m with q | q
  · have := letters_lt q
    exact decide_eq_true (by omega)
  · have := digits_lt q
    exact decide_eq_true (by omega)
mutual
theorem ok_data : ∀ {t : Tr}, t.good → t.data.canLay0 = true
  | .leaf nm fr, h => by
    simp only [Tr.data, PyData.canLay0, PyData.canLayAll0, isNm_ok h, Bool.and_self]
  | .grp ps, h => by
    simp only [Tr.data, PyData.canLay0, PyData.canLayAll0, ok_dataL h.2, Bool.and_true]
    decide +kernel
theorem ok_dataL : ∀ {ts : List Tr}, goodL ts → PyData.canLayAll0 (dataL ts) = true
  | [], _ => by simp [dataL, PyData.canLayAll0]
  | t :: ts, h => by
    simp only [dataL, PyData.canLayAll0, ok_data h.1, ok_dataL h.2, Bool.and_self]
end
theorem shaped_tr {t : Tr} (g : t.good) (h : t.hgt < 30) : SeqAt.shaped t.data = true := by
  unfold SeqAt.shaped
  rw [ok_data g, Bool.true_and]
  have := depth_data t
  exact decide_eq_true (by omega)
theorem shaped_trs {ts : List Tr} (g : goodL ts) (h : hgtL ts < 30) : SeqAt.shaped (.list (dataL ts)) = true := by
  unfold SeqAt.shaped
  simp only [PyData.canLay0, PyData.depth, ok_dataL g, Bool.true_and]
  have := depth_dataL ts
  exact decide_eq_true (by omega)
mutual
theorem eqv_tr : ∀ {a b : Tr}, PyData.eqv a.data b.data = true → a = b
  | .leaf n f, .leaf m g, h => by
    simp [Tr.data, PyData.eqv, PyData.eqvAll] at h
    rw [h.1, h.2]
  | .leaf _ _, .grp _, h => by simp [Tr.data, PyData.eqv, PyData.eqvAll] at h
  | .grp _, .leaf _ _, h => by simp [Tr.data, PyData.eqv, PyData.eqvAll] at h
  | .grp ps, .grp qs, h => by
    simp [Tr.data, PyData.eqv, PyData.eqvAll] at h
    rw [eqv_trs h]
theorem eqv_trs : ∀ {as bs : List Tr}, PyData.eqvAll (dataL as) (dataL bs) = true → as = bs
  | [], [], _ => rfl
  | [], _ :: _, h => by simp [dataL, PyData.eqvAll] at h
  | _ :: _, [], h => by simp [dataL, PyData.eqvAll] at h
  | a :: as, b :: bs, h => by
    simp [dataL, PyData.eqvAll] at h
    rw [eqv_tr h.1, eqv_trs h.2]
end
mutual
theorem eqv_self : ∀ a : Tr, PyData.eqv a.data a.data = true
  | .leaf n f => by simp [Tr.data, PyData.eqv, PyData.eqvAll]
  | .grp ps => by simp [Tr.data, PyData.eqv, PyData.eqvAll, eqv_selfL ps]
theorem eqv_selfL : ∀ as : List Tr, PyData.eqvAll (dataL as) (dataL as) = true
  | [] => by simp [dataL, PyData.eqvAll]
  | a :: as => by simp [dataL, PyData.eqvAll, eqv_self a, eqv_selfL as]
end
theorem dataL_map : ∀ ts : List Tr, dataL ts = ts.map Tr.data
  | [] => rfl
  | t :: ts => by rw [dataL, dataL_map ts]; rfl
theorem any_data {t : Tr} {ts : List Tr} : ((dataL ts).any fun z => PyData.eqv z t.data) = true ↔ t ∈ ts := by
  rw [dataL_map, List.any_map, List.any_eq_true]
  constructor
  · rintro ⟨x, m, h⟩
    rw [← eqv_tr h]
    exact m
  · exact fun m => ⟨t, m, eqv_self t⟩
theorem eqv_nil {ts : List Tr} : PyData.eqv (.list (dataL ts)) (.list []) = decide (ts = []) := by
  cases ts <;> simp [dataL, PyData.eqv, PyData.eqvAll]
end LB

/-! Trees in normal order; parts exchanged for others. -/
namespace LB
open PySem PySem.Spec PyProof.Rows L2 LamX LK
mutual
/-- each group's parts stand in the order of the first names -/
def Tr.norm : Tr → Prop
  | .leaf _ _ => True
  | .grp ps => ps.Pairwise (fun a b => leT a b = true) ∧ normL ps
def normL : List Tr → Prop
  | [] => True
  | t :: ts => t.norm ∧ normL ts
end
theorem normL_mem : ∀ {ts : List Tr}, normL ts ↔ ∀ t ∈ ts, t.norm
  | [] => by simp [normL]
  | t :: ts => by
    unfold normL
    rw [normL_mem]
    simp
theorem sortT_pw (ts : List Tr) : (sortT ts).Pairwise (fun a b => leT a b = true) :=
  List.pairwise_mergeSort (le := leT) (fun a b c h1 h2 => leS_trans _ _ _ h1 h2) (fun a b => leS_total _ _) ts
theorem group_norm {ts : List Tr} (h : normL ts) : (group ts).norm := ⟨sortT_pw ts, normL_mem.mpr fun t m => normL_mem.mp h t ((sortT_perm ts).mem_iff.mp m)⟩
theorem heap1_norm {ts : List Tr} (h : normL ts) : normL (heap1 ts) := by
  unfold heap1
  split
  · exact h
  · exact ⟨group_norm h, trivial⟩
theorem normL_append {xs ys : List Tr} : normL (xs ++ ys) ↔ normL xs ∧ normL ys := by
  simp only [normL_mem, List.mem_append]
  exact ⟨fun h => ⟨fun t m => h t (.inl m), fun t m => h t (.inr m)⟩, fun h t m => m.elim (h.1 t) (h.2 t)⟩
theorem goodL_append {xs ys : List Tr} : goodL (xs ++ ys) ↔ goodL xs ∧ goodL ys := by
  simp only [goodL_mem, List.mem_append]
  exact ⟨fun h => ⟨fun t m => h t (.inl m), fun t m => h t (.inr m)⟩, fun h t m => m.elim (h.1 t) (h.2 t)⟩
mutual
theorem turn_norm {f : Str → Str} : ∀ {t : Tr}, (t.turn f).norm
  | .leaf _ _ => trivial
  | .grp ps => group_norm turnL_norm
theorem turnL_norm {f : Str → Str} : ∀ {ts : List Tr}, normL (turnL f ts)
  | [] => trivial
  | t :: ts => ⟨turn_norm, turnL_norm⟩
end
mutual
theorem swap_norm {w : Str} : ∀ {t : Tr}, (t.swap w).norm
  | .leaf _ _ => trivial
  | .grp ps => group_norm swapL_norm
theorem swapL_norm {w : Str} : ∀ {ts : List Tr}, normL (swapL w ts)
  | [] => trivial
  | t :: ts => ⟨swap_norm, swapL_norm⟩
end
mutual
theorem left_norm {ws : List Str} : ∀ {t : Tr}, normL (t.left ws)
  | .leaf nm fr => by
    unfold Tr.left
    split
    · exact ⟨trivial, trivial⟩
    · trivial
  | .grp ps => heap1_norm leftL_norm
theorem leftL_norm {ws : List Str} : ∀ {ts : List Tr}, normL (leftL ws ts)
  | [] => trivial
  | t :: ts => by
    unfold leftL
    exact normL_append.mpr ⟨left_norm, leftL_norm⟩
end
mutual
theorem nodes_norm : ∀ {t : Tr}, t.norm → ∀ u ∈ t.nodes, u.norm
  | .leaf nm fr, h, u, m => by
    rw [List.mem_singleton.mp m]
    trivial
  | .grp ps, h, u, m => by
    rcases List.mem_cons.mp m with rfl | m
    · exact h
    · exact nodesL_norm h.2 u m
theorem nodesL_norm : ∀ {ts : List Tr}, normL ts → ∀ u ∈ nodesL ts, u.norm
  | [], _, u, m => by simp [nodesL] at m
  | t :: ts, h, u, m => by
    unfold nodesL at m
    rcases List.mem_append.mp m with m | m
    · exact nodes_norm h.1 u m
    · exact nodesL_norm h.2 u m
end
theorem split_at {α : Type} {ps : List α} {i : Nat} {t : α} (h : ps[i]? = some t) : ps = ps.take i ++ [t] ++ ps.drop (i + 1) := by
  rw [← take_snoc h, List.take_append_drop]
structure Rep (ex : List Str) (ps L : List Tr) : Prop where
  good : goodL L
  norm : normL L
  under : (underL L).Perm (ex ++ underL ps)
  len : 2 ≤ L.length
  lv : lvL L = ex.length + lvL ps
/-- the part at i exchanged for some -/
theorem rep_mk {ps R : List Tr} {i : Nat} {t : Tr} {ex : List Str} (hi : ps[i]? = some t) (g : goodL ps) (h2 : 2 ≤ ps.length) (n : normL ps) (gR : goodL R) (nR : normL R) (h1 : 1 ≤ R.length) (p : (underL R).Perm (ex ++ t.under)) :
    Rep ex ps (ps.take i ++ R ++ ps.drop (i + 1)) := by
  have e := split_at hi
  have hl : i < ps.length := by
    rcases Nat.lt_or_ge i ps.length with h | h
    · exact h
    · rw [List.getElem?_eq_none h] at hi
      cases hi
  have gs := g
  have ns := n
  rw [e] at gs ns
  rw [goodL_append, goodL_append] at gs
  rw [normL_append, normL_append] at ns
  have pu : (underL (ps.take i ++ R ++ ps.drop (i + 1))).Perm (ex ++ underL ps) := by
    have e2 : underL ps = underL (ps.take i) ++ t.under ++ underL (ps.drop (i + 1)) := by
      conv => lhs; rw [e]
      rw [underL_append, underL_append]
      simp [underL]
    rw [underL_append, underL_append, e2, ← List.append_assoc, ← List.append_assoc]
    refine List.Perm.append_right _ ?_
    exact (p.append_left _).trans ((List.Perm.of_eq (List.append_assoc ..).symm).trans (List.perm_append_comm.append_right _))
  refine ⟨goodL_append.mpr ⟨goodL_append.mpr ⟨gs.1.1, gR⟩, gs.2⟩, normL_append.mpr ⟨normL_append.mpr ⟨ns.1.1, nR⟩, ns.2⟩, pu, ?_, ?_⟩
  · rw [List.length_append, List.length_append, List.length_take, List.length_drop]
    omega
  · have := pu.length_eq
    rw [underL_len, List.length_append, underL_len] at this
    exact this
/-- one or no tree with the same names and some more -/
def Res (ex : List Str) (t : Tr) (ts : List Tr) : Prop := ts = [] ∨ ∃ t', ts = [t'] ∧ t'.good ∧ t'.norm ∧ t'.under.Perm (ex ++ t.under)
theorem Rep.res {ex : List Str} {ps L : List Tr} (r : Rep ex ps L) : Res ex (.grp ps) [group L] := by
  refine .inr ⟨_, rfl, group_good r.good r.len, group_norm r.norm, ?_⟩
  rw [group_under]
  exact (sortS_perm _).trans (r.under.trans ((sortS_perm _).symm.append_left _))
mutual
theorem under_nm : ∀ {t : Tr}, t.good → ∀ w ∈ t.under, isNm w = true
  | .leaf nm _, g, w, m => by
    rw [List.mem_singleton.mp m]
    exact g
  | .grp ps, g, w, m => underL_nm g.2 w (sortS_mem.mp m)
theorem underL_nm : ∀ {ts : List Tr}, goodL ts → ∀ w ∈ underL ts, isNm w = true
  | [], _, w, m => by simp [underL] at m
  | t :: ts, g, w, m => by
    unfold underL at m
    rcases List.mem_append.mp m with m | m
    · exact under_nm g.1 w m
    · exact underL_nm g.2 w m
end
theorem under_ok {t : Tr} (g : t.good) : ∀ w ∈ t.under, PyData.strOk w = true := fun w m => isNm_ok (under_nm g w m)
/-- some of the parts grouped -/
theorem rep_join {ps : List Tr} (p : Tr → Bool) (g : goodL ps) (n : normL ps) (h1 : 1 < (ps.filter p).length) (h2 : (ps.filter p).length < ps.length) :
    Rep [] ps (ps.filter (fun t => !p t) ++ [group (ps.filter p)]) ∧ goodL (ps.filter p) ∧ lvL (ps.filter p) ≤ lvL ps := by
  have pm : (ps.filter p ++ ps.filter (fun t => !p t)).Perm ps := List.filter_append_perm p ps
  have g1 : goodL (ps.filter p) := goodL_mem.mpr fun t m => goodL_mem.mp g t (List.mem_filter.mp m).1
  have n1 : normL (ps.filter p) := normL_mem.mpr fun t m => normL_mem.mp n t (List.mem_filter.mp m).1
  have g2 : goodL (ps.filter fun t => !p t) := goodL_mem.mpr fun t m => goodL_mem.mp g t (List.mem_filter.mp m).1
  have n2 : normL (ps.filter fun t => !p t) := normL_mem.mpr fun t m => normL_mem.mp n t (List.mem_filter.mp m).1
  have hl := pm.length_eq
  have hv := lvL_perm pm
  rw [List.length_append] at hl
  rw [lvL_append] at hv
  refine ⟨⟨goodL_append.mpr ⟨g2, group_good g1 (by omega), trivial⟩, normL_append.mpr ⟨n2, group_norm n1, trivial⟩, ?_, ?_, ?_⟩, g1, by omega⟩
  · rw [underL_append]
    have e : underL [group (ps.filter p)] = sortS (underL (ps.filter p)) := by
      show (group _).under ++ [] = _
      rw [List.append_nil, group_under]
    rw [e, List.nil_append]
    refine (List.Perm.append_left _ (sortS_perm _)).trans (List.perm_append_comm.trans ?_)
    rw [← underL_append]
    exact underL_perm pm
  · rw [List.length_append]
    simp only [List.length_cons, List.length_nil]
    omega
  · rw [lvL_append]
    have e : lvL [group (ps.filter p)] = lvL (ps.filter p) := by
      show (group _).lv + 0 = _
      rw [group_lv]
      rfl
    rw [e]
    simp only [List.length_nil]
    omega
end LB

/-! Forms are read in one way only; parts by their forms. -/
namespace LB
open PySem PySem.Spec PyProof.Rows L2 LamX LK
theorem cpsA (a b : Str) : (a ++ b).cps.toList = a.cps.toList ++ b.cps.toList := by rw [PySem.Str.cps_append, Array.toList_append]
theorem cps_join : ∀ ws : List Str, (Str.join "" ws).cps.toList = (ws.map (·.cps.toList)).flatten
  | [] => rfl
  | [x] => by
    show x.cps.toList = _
    simp
  | x :: y :: r => by
    have ih := cps_join (y :: r)
    show (x ++ "" ++ Str.join "" (y :: r)).cps.toList = _
    rw [cpsA, cpsA, ih]
    have e : ("" : Str).cps.toList = [] := by decide +kernel
    rw [e]
    simp
theorem form_grp (ps : List Tr) : (Tr.grp ps).form.cps.toList = 40 :: (((sortF (formL ps)).map (·.cps.toList)).flatten ++ [41]) := by
  show ("(" ++ Txt.join "" (sortF (formL ps)) ++ ")" : Str).cps.toList = _
  rw [cpsA, cpsA, joinE, cps_join]
  have e1 : ("(" : Str).cps.toList = [40] := by decide +kernel
  have e2 : (")" : Str).cps.toList = [41] := by decide +kernel
  rw [e1, e2]
  rfl
theorem form_leaf (nm : Str) (fr : Bool) : (Tr.leaf nm fr).form.cps.toList = [if fr then 111 else 124] := by
  cases fr
  · show ("|" : Str).cps.toList = _
    decide +kernel
  · show ("o" : Str).cps.toList = _
    decide +kernel
theorem form_hd : ∀ b : Tr, ∃ c r, b.form.cps.toList = c :: r ∧ c ≠ 41
  | .leaf nm fr => ⟨_, [], form_leaf nm fr, by cases fr <;> decide⟩
  | .grp ps => ⟨40, _, form_grp ps, by decide⟩
theorem formL_mem {w : Str} {ps : List Tr} (h : w ∈ sortF (formL ps)) : ∃ t ∈ ps, t.form = w := by
  have h2 := (sortF_perm _).mem_iff.mp h
  rw [formL_map] at h2
  obtain ⟨t, m, e⟩ := List.mem_map.mp h2
  exact ⟨t, m, e⟩
theorem pre_list {n : Nat} (P : ∀ a : Tr, a.hgt < n → ∀ (b : Tr) (x y : List Nat), a.form.cps.toList ++ x = b.form.cps.toList ++ y → a.form = b.form ∧ x = y) :
    ∀ (ws vs : List Str) (x y : List Nat), (∀ w ∈ ws, ∃ t : Tr, t.hgt < n ∧ t.form = w) → (∀ w ∈ vs, ∃ t : Tr, t.form = w) →
      (ws.map (·.cps.toList)).flatten ++ 41 :: x = (vs.map (·.cps.toList)).flatten ++ 41 :: y → ws = vs ∧ x = y
  | [], [], x, y, _, _, h => by
    simp at h
    exact ⟨rfl, h⟩
  | [], v :: vs, x, y, _, hv, h => by
    obtain ⟨t, rfl⟩ := hv v (by simp)
    obtain ⟨c, r, e, hc⟩ := form_hd t
    simp only [List.map_nil, List.flatten_nil, List.nil_append, List.map_cons, List.flatten_cons, List.append_assoc, e, List.cons_append] at h
    injection h with h1 _
    exact absurd h1.symm hc
  | w :: ws, [], x, y, hw, _, h => by
    obtain ⟨t, _, rfl⟩ := hw w (by simp)
    obtain ⟨c, r, e, hc⟩ := form_hd t
    simp only [List.map_nil, List.flatten_nil, List.nil_append, List.map_cons, List.flatten_cons, List.append_assoc, e, List.cons_append] at h
    injection h with h1 _
    exact absurd h1 hc
  | w :: ws, v :: vs, x, y, hw, hv, h => by
    obtain ⟨t, ht, rfl⟩ := hw w (by simp)
    obtain ⟨u, rfl⟩ := hv v (by simp)
    simp only [List.map_cons, List.flatten_cons, List.append_assoc] at h
    obtain ⟨e1, e2⟩ := P t ht u _ _ h
    obtain ⟨e3, e4⟩ := pre_list P ws vs x y (fun w m => hw w (List.mem_cons_of_mem _ m)) (fun w m => hv w (List.mem_cons_of_mem _ m)) e2
    exact ⟨by rw [e1, e3], e4⟩
theorem form_pre : ∀ (n : Nat) (a : Tr), a.hgt < n → ∀ (b : Tr) (x y : List Nat), a.form.cps.toList ++ x = b.form.cps.toList ++ y → a.form = b.form ∧ x = y
  | 0, a, h, _, _, _, _ => absurd h (Nat.not_lt_zero _)
  | n + 1, .leaf nm fr, _, .leaf nm2 fr2, x, y, h => by
    rw [form_leaf, form_leaf] at h
    injection h with h1 h2
    refine ⟨str_ext ?_, h2⟩
    rw [form_leaf, form_leaf, h1]
  | n + 1, .leaf nm fr, _, .grp ps, x, y, h => by
    rw [form_leaf, form_grp] at h
    injection h with h1 h2
    cases fr <;> simp at h1
  | n + 1, .grp ps, _, .leaf nm fr, x, y, h => by
    rw [form_leaf, form_grp] at h
    injection h with h1 h2
    cases fr <;> simp at h1
  | n + 1, .grp ps, hh, .grp qs, x, y, h => by
    rw [form_grp, form_grp] at h
    simp only [List.cons_append, List.append_assoc, List.nil_append] at h
    injection h with _ h2
    have h3 : 1 + hgtL ps < n + 1 := hh
    obtain ⟨e1, e2⟩ := pre_list (form_pre n) _ _ x y (fun w m => by
      obtain ⟨t, m2, e⟩ := formL_mem m
      have := hgtL_mem m2
      exact ⟨t, by omega, e⟩) (fun w m => by
      obtain ⟨t, m2, e⟩ := formL_mem m
      exact ⟨t, e⟩) h2
    refine ⟨str_ext ?_, e2⟩
    rw [form_grp, form_grp, e1]
theorem form_grp_iff {ps qs : List Tr} : (Tr.grp ps).form = (Tr.grp qs).form ↔ (formL ps).Perm (formL qs) := by
  constructor
  · intro h
    have h2 := congrArg (fun s : Str => s.cps.toList) h
    simp only [form_grp] at h2
    injection h2 with _ h3
    obtain ⟨e1, _⟩ := pre_list (n := hgtL ps + 1) (form_pre _) (sortF (formL ps)) (sortF (formL qs)) [] [] (fun w m => by
      obtain ⟨t, m2, e⟩ := formL_mem m
      have := hgtL_mem m2
      exact ⟨t, by omega, e⟩) (fun w m => by
      obtain ⟨t, m2, e⟩ := formL_mem m
      exact ⟨t, e⟩) h3
    exact (sortF_perm _).symm.trans ((List.Perm.of_eq e1).trans (sortF_perm _))
  · intro h
    show ("(" ++ Txt.join "" (sortF (formL ps)) ++ ")" : Str) = "(" ++ Txt.join "" (sortF (formL qs)) ++ ")"
    rw [sortF_congr h]
theorem form_leaf_iff {a b : Str} {f g : Bool} : (Tr.leaf a f).form = (Tr.leaf b g).form ↔ f = g := by
  constructor
  · intro h
    have h2 := congrArg (fun s : Str => s.cps.toList) h
    simp only [form_leaf] at h2
    cases f <;> cases g <;> simp at h2 <;> rfl
  · rintro rfl
    rfl
theorem form_leaf_grp {a : Str} {f : Bool} {ps : List Tr} : (Tr.leaf a f).form ≠ (Tr.grp ps).form := by
  intro h
  have h2 := congrArg (fun s : Str => s.cps.toList) h
  simp only [form_leaf, form_grp] at h2
  injection h2 with h1 h2
  cases f <;> simp at h1
theorem formL_perm {xs ys : List Tr} (p : xs.Perm ys) : (formL xs).Perm (formL ys) := by
  rw [formL_map, formL_map]
  exact p.map _
theorem group_form (ts : List Tr) : (group ts).form = (Tr.grp ts).form := form_grp_iff.mpr (formL_perm (sortT_perm ts))
mutual
theorem turn_form (f : Str → Str) : ∀ t : Tr, (t.turn f).form = t.form
  | .leaf _ _ => rfl
  | .grp ps => by
    show (group (turnL f ps)).form = _
    rw [group_form]
    exact form_grp_iff.mpr (List.Perm.of_eq (turnL_form f ps))
theorem turnL_form (f : Str → Str) : ∀ ts : List Tr, formL (turnL f ts) = formL ts
  | [] => rfl
  | t :: ts => by simp only [turnL, formL, turn_form f t, turnL_form f ts]
end
end LB

/-! Names by their signs; a fresh one among eight. -/
namespace LB
open PySem PySem.Spec PyProof.Rows L2 LamX LK
def okS (l : List Nat) : Prop := ∀ (j c : Nat), l[j]? = some c → c ∈ letters ∨ (j ≠ 0 ∧ c ∈ digits)
theorem isNm_iff {w : Str} : isNm w = true ↔ 1 ≤ w.length ∧ w.length ≤ 8 ∧ w ∉ barred ∧ okS w.cps.toList := by
  have hl : w.length = w.cps.toList.length := by
    show w.cps.size = _
    rw [Array.length_toList]
  unfold isNm
  rw [hl]
  simp only [Bool.and_eq_true, decide_eq_true_eq, Bool.not_eq_true']
  have hb : barred.contains w = false ↔ w ∉ barred := by
    rw [← Bool.not_eq_true, List.contains_iff_mem]
  rw [hb]
  constructor
  · rintro ⟨⟨⟨h1, h2⟩, h3⟩, h4⟩
    refine ⟨h1, h2, h3, fun j c hc => ?_⟩
    cases e : w.cps.toList with
    | nil => rw [e] at h1; simp at h1
    | cons d r =>
      rw [e] at h4 hc
      simp only [Bool.and_eq_true, List.contains_iff_mem, List.all_eq_true, Bool.or_eq_true] at h4
      cases j with
      | zero =>
        simp at hc
        rw [← hc]
        exact .inl h4.1
      | succ j =>
        simp at hc
        rcases h4.2 c (List.mem_of_getElem? hc) with h | h
        · exact .inl h
        · exact .inr ⟨by omega, h⟩
  · rintro ⟨h1, h2, h3, h4⟩
    refine ⟨⟨⟨h1, h2⟩, h3⟩, ?_⟩
    cases e : w.cps.toList with
    | nil => rw [e] at h1; simp at h1
    | cons d r =>
      rw [e] at h4
      simp only [Bool.and_eq_true, List.contains_iff_mem, List.all_eq_true, Bool.or_eq_true]
      refine ⟨?_, fun c m => ?_⟩
      · rcases h4 0 d rfl with h | h
        · exact h
        · exact absurd rfl h.1
      · obtain ⟨j, hj⟩ := List.mem_iff_getElem?.mp m
        rcases h4 (j + 1) c (by simpa using hj) with h | h
        · exact .inl h
        · exact .inr h.2
/-- letters and digits, a letter first -/
structure IsW (w : Str) (n : Nat) : Prop where
  one : 1 ≤ w.length
  len : w.length ≤ n
  ok : okS w.cps.toList
theorem len_cps (w : Str) : w.length = w.cps.toList.length := by
  show w.cps.size = _
  rw [Array.length_toList]
theorem okS_append {l : List Nat} {c : Nat} (h : okS l) (h1 : l ≠ []) (hc : c ∈ letters ∨ c ∈ digits) : okS (l ++ [c]) := by
  intro j d hd
  rcases Nat.lt_trichotomy j l.length with z | z | z
  · rw [List.getElem?_append_left z] at hd
    exact h j d hd
  · rw [List.getElem?_append_right (by omega), z, Nat.sub_self] at hd
    simp at hd
    subst hd
    have : l.length ≠ 0 := fun q => h1 (List.eq_nil_of_length_eq_zero q)
    rcases hc with q | q
    · exact .inl q
    · exact .inr ⟨by omega, q⟩
  · rw [List.getElem?_eq_none (by rw [List.length_append]; simp; omega)] at hd
    cases hd
theorem IsW.snoc {w s : Str} {n c : Nat} (h : IsW w n) (hs : s.cps.toList = [c]) (hc : c ∈ letters ∨ c ∈ digits) : IsW (w ++ s) (n + 1) := by
  have hl := len_cps s
  rw [hs] at hl
  have h1 := h.one
  have h2 := h.len
  refine ⟨by rw [lenA]; omega, by rw [lenA, hl]; simp; omega, ?_⟩
  rw [cpsA, hs]
  refine okS_append h.ok (fun z => ?_) hc
  have := len_cps w
  rw [z] at this
  simp at this
  omega
theorem IsW.cut {w v : Str} {n m : Nat} (h : IsW w n) (hv : v.cps.toList = w.cps.toList.take m) (hm : 1 ≤ m) : IsW v m := by
  have h1 := len_cps v
  have h2 := len_cps w
  have h3 := h.one
  rw [hv, List.length_take] at h1
  refine ⟨by omega, by omega, fun j c hc => ?_⟩
  rw [hv] at hc
  by_cases hj : j < m
  · rw [List.getElem?_take_of_lt hj] at hc
    exact h.ok j c hc
  · rw [List.getElem?_eq_none (by rw [List.length_take]; omega)] at hc
    cases hc
theorem IsW.mono {w : Str} {n m : Nat} (h : IsW w n) (hm : n ≤ m) : IsW w m := ⟨h.one, Nat.le_trans h.len hm, h.ok⟩
theorem digit_str (j : Nat) (h : j < 10) : (toString (j : Int) : Str).cps.toList = [48 + j] ∧ 48 + j ∈ digits := by
  refine ⟨?_, ?_⟩
  · match j, h with
    | 0, _ => decide +kernel
    | 1, _ => decide +kernel
    | 2, _ => decide +kernel
    | 3, _ => decide +kernel
    | 4, _ => decide +kernel
    | 5, _ => decide +kernel
    | 6, _ => decide +kernel
    | 7, _ => decide +kernel
    | 8, _ => decide +kernel
    | 9, _ => decide +kernel
  · unfold digits
    exact List.mem_map.mpr ⟨j, List.mem_range.mpr h, by omega⟩
theorem barred_plain : ∀ w ∈ barred, ∀ c ∈ w.cps.toList, c ∉ digits := by decide +kernel
theorem cand_nm {stem : Str} {j : Nat} (h : IsW stem 6) (hj : j < 10) : isNm (stem ++ toString (j : Int)) = true := by
  obtain ⟨e, d⟩ := digit_str j hj
  have W := h.snoc e (.inr d)
  refine isNm_iff.mpr ⟨W.one, Nat.le_trans W.len (by decide), fun m => ?_, W.ok⟩
  refine barred_plain _ m (48 + j) ?_ d
  rw [cpsA, e]
  simp
theorem cand_inj {stem : Str} {i j : Nat} (hi : i < 10) (hj : j < 10) (h : stem ++ toString (i : Int) = stem ++ (toString (j : Int) : Str)) : i = j := by
  have h2 := congrArg (fun s : Str => s.cps.toList) h
  simp only [cpsA, (digit_str i hi).1, (digit_str j hj).1] at h2
  have h3 := List.append_cancel_left h2
  injection h3 with h3
  omega
theorem pigeon {α : Type} [DecidableEq α] {f : Nat → α} : ∀ (n : Nat) (l : List α), (∀ j, j < n → f j ∈ l) → (∀ i j, i < n → j < n → f i = f j → i = j) → n ≤ l.length
  | 0, _, _, _ => Nat.zero_le _
  | n + 1, l, h, inj => by
    have hm := h n (by omega)
    have ih := pigeon n (l.erase (f n)) (fun j hj => (List.mem_erase_of_ne fun e => by have := inj j n (by omega) (by omega) e; omega).mpr (h j (by omega))) (fun i j hi hj => inj i j (by omega) (by omega))
    rw [List.length_erase_of_mem hm] at ih
    have := List.length_pos_of_mem hm
    omega
/-- one of the first eight is fresh -/
theorem fresh_cand {stem : Str} {known : List Str} (h : IsW stem 6) (hk : known.length < 8) : ¬ ∀ j, j < 8 → (stem ++ toString ((j : Nat) : Int) ∈ known ∨ isNm (stem ++ toString ((j : Nat) : Int)) = false) := by
  intro all
  have := pigeon (f := fun j : Nat => stem ++ toString (j : Int)) 8 known (fun j hj => by
    rcases all j hj with q | q
    · exact q
    · rw [cand_nm h (by omega)] at q
      cases q) (fun i j hi hj e => cand_inj (by omega) (by omega) e)
  omega
def alpha : Str := "abcdefghijklmnopqrstuvwxyz"
theorem alpha_cps : ("abcdefghijklmnopqrstuvwxyz" : Str).cps.toList = letters := by decide +kernel
theorem digit_cps : ("0123456789" : Str).cps.toList = digits := by decide +kernel
end LB

/-! The way to a lane ends with it; a lane taken out and put back. -/
namespace LB
open PySem PySem.Spec PyProof.Rows L2 LamX LK
mutual
theorem nodes_sub : ∀ {t : Tr} {u : Tr} {z : Str}, u ∈ t.nodes → z ∈ u.under → z ∈ t.under
  | .leaf nm fr, u, z, m, h => by
    rw [List.mem_singleton.mp m] at h
    exact h
  | .grp ps, u, z, m, h => by
    rcases List.mem_cons.mp m with rfl | m
    · exact h
    · exact sortS_mem.mpr (nodesL_sub m h)
theorem nodesL_sub : ∀ {ts : List Tr} {u : Tr} {z : Str}, u ∈ nodesL ts → z ∈ u.under → z ∈ underL ts
  | [], u, z, m, h => by simp [nodesL] at m
  | t :: ts, u, z, m, h => by
    unfold nodesL at m
    unfold underL
    rcases List.mem_append.mp m with m | m
    · exact List.mem_append_left _ (nodes_sub m h)
    · exact List.mem_append_right _ (nodesL_sub m h)
end
mutual
theorem way_last : ∀ {t : Tr} {z : Str}, z ∈ t.under → ∃ pre fr, (t.nodes.filter fun u => decide (z ∈ u.under)) = pre ++ [Tr.leaf z fr]
  | .leaf nm fr, z, h => by
    have e : z = nm := List.mem_singleton.mp h
    subst e
    refine ⟨[], fr, ?_⟩
    simp [Tr.nodes, Tr.under]
  | .grp ps, z, h => by
    obtain ⟨pre, fr, e⟩ := wayL_last (sortS_mem.mp h)
    refine ⟨.grp ps :: pre, fr, ?_⟩
    show (Tr.grp ps :: nodesL ps).filter _ = _
    rw [List.filter_cons, if_pos (decide_eq_true h), e]
    rfl
theorem wayL_last : ∀ {ts : List Tr} {z : Str}, z ∈ underL ts → ∃ pre fr, ((nodesL ts).filter fun u => decide (z ∈ u.under)) = pre ++ [Tr.leaf z fr]
  | [], z, h => by simp [underL] at h
  | t :: ts, z, h => by
    unfold nodesL
    rw [List.filter_append]
    by_cases h2 : z ∈ underL ts
    · obtain ⟨pre, fr, e⟩ := wayL_last h2
      exact ⟨_, fr, by rw [e, List.append_assoc]⟩
    · have h3 : z ∈ t.under := (List.mem_append.mp h).resolve_right h2
      obtain ⟨pre, fr, e⟩ := way_last h3
      have e2 : ((nodesL ts).filter fun u => decide (z ∈ u.under)) = [] := by
        rw [List.filter_eq_nil_iff]
        intro u m q
        exact h2 (nodesL_sub m (of_decide_eq_true q))
      exact ⟨pre, fr, by rw [e, e2, List.append_nil]⟩
end
theorem rts_last {H : Hp} : ∀ {us : List V} {ts : List Tr} {t : Tr}, RTs H us (ts ++ [t]) → ∃ vs x, us = vs ++ [x] ∧ RT H x t
  | _, [], _, .cons h .nil => ⟨[], _, rfl, h⟩
  | _, _ :: _, _, .cons h r => by
    obtain ⟨vs, x, e, q⟩ := rts_last r
    exact ⟨_ :: vs, x, by rw [e]; rfl, q⟩
theorem back_perm {l : List Str} {z : Str} (nd : l.Nodup) (m : z ∈ l) : (z :: l.filter fun w => !decide (w = z)).Perm l := by
  have e : (l.filter fun w => !decide (w = z)) = l.erase z := by
    rw [nd.erase_eq_filter]
    congr 1
  rw [e]
  exact (List.perm_cons_erase m).symm
theorem left_rest {t r : Tr} {z : Str} (h : t.left (t.under.filter fun w => !decide (w = z)) = [r]) : r.under.Perm (t.under.filter fun w => !decide (w = z)) := by
  have p := left_under (t.under.filter fun w => !decide (w = z)) t
  rw [h] at p
  have e : underL [r] = r.under := List.append_nil _
  rw [e] at p
  have e2 : (t.under.filter fun w => decide (w ∈ t.under.filter fun w => !decide (w = z))) = t.under.filter fun w => !decide (w = z) := by
    refine List.filter_congr fun w m => ?_
    by_cases q : w = z <;> simp [q, m]
  rw [e2] at p
  exact p
/-- two names exchanged -/
def xch (a b w : Str) : Str := if w = b then a else if w = a then b else w
theorem xch_inj {a b v w : Str} (h : xch a b v = xch a b w) : v = w := by
  unfold xch at h
  grind
theorem xch_mem {a b w : Str} {l : List Str} (ha : a ∈ l) (hb : b ∈ l) (h : w ∈ l) : xch a b w ∈ l := by
  unfold xch
  split
  · exact ha
  · split
    · exact hb
    · exact h
theorem nodup_map {l : List Str} {f : Str → Str} (inj : ∀ v w, f v = f w → v = w) (nd : l.Nodup) : (l.map f).Nodup := by
  induction nd with
  | nil => exact .nil
  | @cons x r hx _ ih =>
    rw [List.map_cons, List.nodup_cons]
    refine ⟨fun m => ?_, ih⟩
    obtain ⟨y, my, e⟩ := List.mem_map.mp m
    exact hx y my (inj _ _ e).symm
theorem xch_perm {a b : Str} {l : List Str} (nd : l.Nodup) (ha : a ∈ l) (hb : b ∈ l) : (l.map (xch a b)).Perm l := by
  have n2 := nodup_map (f := xch a b) (fun v w => xch_inj) nd
  refine (List.perm_ext_iff_of_nodup n2 nd).mpr fun z => ⟨fun m => ?_, fun m => ?_⟩
  · obtain ⟨w, mw, rfl⟩ := List.mem_map.mp m
    exact xch_mem ha hb mw
  · refine List.mem_map.mpr ⟨xch a b z, xch_mem ha hb m, ?_⟩
    unfold xch
    by_cases h1 : z = b
    · rw [if_pos h1]
      by_cases h2 : a = b
      · rw [if_pos h2, h2, h1]
      · rw [if_neg h2, if_pos rfl, h1]
    · rw [if_neg h1]
      by_cases h2 : z = a
      · rw [if_pos h2, if_pos rfl, h2]
      · rw [if_neg h2, if_neg h1, if_neg h2]
end LB

/-! The text by places, the head's facts, a rule for each def (printed by gentext.py). -/
namespace K3
open PySem PySem.Spec PyProof.Rows L2
def top (i : Nat) : Stmt := PySem.Challenge.pw_turnskept_k03_whole_forms_say_same_but_f.main.body.getD i (.Pass ⟨0, 0, 0, 0⟩)
abbrev s_is_name : Stmt := top 11
abbrev s_bare_name : Stmt := top 12
abbrev s_group_form : Stmt := top 17
abbrev s_read_words : Stmt := top 18
abbrev s_read_node : Stmt := top 19
abbrev s_shape_of : Stmt := top 22
abbrev s_lane_word : Stmt := top 23
abbrev s_law_bag : Stmt := top 25
abbrev s_law_draw : Stmt := top 26
abbrev s_law_of : Stmt := top 27
abbrev s_law_mixed : Stmt := top 28
abbrev s_law_like : Stmt := top 29
abbrev s_law_barred : Stmt := top 30
abbrev s_law_named : Stmt := top 31
abbrev s_law_names : Stmt := top 32
abbrev s_law_many : Stmt := top 33
abbrev s_law_leaves : Stmt := top 34
abbrev s_law_under : Stmt := top 35
abbrev s_law_group : Stmt := top 36
abbrev s_law_tree : Stmt := top 37
abbrev s_law_shape : Stmt := top 38
abbrev s_law_text : Stmt := top 39
abbrev s_law_high : Stmt := top 40
abbrev s_law_form : Stmt := top 41
abbrev s_law_nodes : Stmt := top 42
abbrev s_law_way : Stmt := top 43
abbrev s_law_shaken : Stmt := top 44
abbrev s_law_turned : Stmt := top 45
abbrev s_law_swapped : Stmt := top 46
abbrev s_law_left : Stmt := top 47
abbrev s_law_joined : Stmt := top 48
abbrev s_law_loose : Stmt := top 49
abbrev s_law_added : Stmt := top 50
abbrev s_law_inside : Stmt := top 51
abbrev s_law_match : Stmt := top 52
abbrev s_law_book : Stmt := top 53
abbrev s_law_moved : Stmt := top 54
abbrev s_law_change : Stmt := top 55
abbrev s_law : Stmt := top 56
abbrev s_Node_init : Stmt := inClass (top 16) 0
abbrev s_Shape_init : Stmt := inClass (top 21) 0
abbrev s_Shape_eq : Stmt := inClass (top 21) 5
def d_is_name : He.DefD := ⟨("is_name", none), "is_name", "is_name", defArgs s_is_name, defBody s_is_name, defScope s_is_name, [], []⟩
def d_bare_name : He.DefD := ⟨("bare_name", none), "bare_name", "bare_name", defArgs s_bare_name, defBody s_bare_name, defScope s_bare_name, [], []⟩
def d_group_form : He.DefD := ⟨("group_form", none), "group_form", "group_form", defArgs s_group_form, defBody s_group_form, defScope s_group_form, [], []⟩
def d_read_words : He.DefD := ⟨("read_words", none), "read_words", "read_words", defArgs s_read_words, defBody s_read_words, defScope s_read_words, [], []⟩
def d_read_node : He.DefD := ⟨("read_node", none), "read_node", "read_node", defArgs s_read_node, defBody s_read_node, defScope s_read_node, [], []⟩
def d_shape_of : He.DefD := ⟨("shape_of", none), "shape_of", "shape_of", defArgs s_shape_of, defBody s_shape_of, defScope s_shape_of, [], []⟩
def d_lane_word : He.DefD := ⟨("lane_word", none), "lane_word", "lane_word", defArgs s_lane_word, defBody s_lane_word, defScope s_lane_word, [], []⟩
def d_law_bag : He.DefD := ⟨("_law_bag", none), "_law_bag", "_law_bag", defArgs s_law_bag, defBody s_law_bag, defScope s_law_bag, [], []⟩
def d_law_draw : He.DefD := ⟨("_law_draw", none), "_law_draw", "_law_draw", defArgs s_law_draw, defBody s_law_draw, defScope s_law_draw, [], []⟩
def d_law_of : He.DefD := ⟨("_law_of", none), "_law_of", "_law_of", defArgs s_law_of, defBody s_law_of, defScope s_law_of, [], []⟩
def d_law_mixed : He.DefD := ⟨("_law_mixed", none), "_law_mixed", "_law_mixed", defArgs s_law_mixed, defBody s_law_mixed, defScope s_law_mixed, [], []⟩
def d_law_like : He.DefD := ⟨("_law_like", none), "_law_like", "_law_like", defArgs s_law_like, defBody s_law_like, defScope s_law_like, [], []⟩
def d_law_barred : He.DefD := ⟨("_law_barred", none), "_law_barred", "_law_barred", defArgs s_law_barred, defBody s_law_barred, defScope s_law_barred, [], []⟩
def d_law_named : He.DefD := ⟨("_law_named", none), "_law_named", "_law_named", defArgs s_law_named, defBody s_law_named, defScope s_law_named, [], []⟩
def d_law_names : He.DefD := ⟨("_law_names", none), "_law_names", "_law_names", defArgs s_law_names, defBody s_law_names, defScope s_law_names, [], []⟩
def d_law_many : He.DefD := ⟨("_law_many", none), "_law_many", "_law_many", defArgs s_law_many, defBody s_law_many, defScope s_law_many, [], []⟩
def d_law_leaves : He.DefD := ⟨("_law_leaves", none), "_law_leaves", "_law_leaves", defArgs s_law_leaves, defBody s_law_leaves, defScope s_law_leaves, [], []⟩
def d_law_under : He.DefD := ⟨("_law_under", none), "_law_under", "_law_under", defArgs s_law_under, defBody s_law_under, defScope s_law_under, [], []⟩
def d_law_group : He.DefD := ⟨("_law_group", none), "_law_group", "_law_group", defArgs s_law_group, defBody s_law_group, defScope s_law_group, [], []⟩
def d_law_tree : He.DefD := ⟨("_law_tree", none), "_law_tree", "_law_tree", defArgs s_law_tree, defBody s_law_tree, defScope s_law_tree, [], []⟩
def d_law_shape : He.DefD := ⟨("_law_shape", none), "_law_shape", "_law_shape", defArgs s_law_shape, defBody s_law_shape, defScope s_law_shape, [], []⟩
def d_law_text : He.DefD := ⟨("_law_text", none), "_law_text", "_law_text", defArgs s_law_text, defBody s_law_text, defScope s_law_text, [], []⟩
def d_law_high : He.DefD := ⟨("_law_high", none), "_law_high", "_law_high", defArgs s_law_high, defBody s_law_high, defScope s_law_high, [], []⟩
def d_law_form : He.DefD := ⟨("_law_form", none), "_law_form", "_law_form", defArgs s_law_form, defBody s_law_form, defScope s_law_form, [], []⟩
def d_law_nodes : He.DefD := ⟨("_law_nodes", none), "_law_nodes", "_law_nodes", defArgs s_law_nodes, defBody s_law_nodes, defScope s_law_nodes, [], []⟩
def d_law_way : He.DefD := ⟨("_law_way", none), "_law_way", "_law_way", defArgs s_law_way, defBody s_law_way, defScope s_law_way, [], []⟩
def d_law_shaken : He.DefD := ⟨("_law_shaken", none), "_law_shaken", "_law_shaken", defArgs s_law_shaken, defBody s_law_shaken, defScope s_law_shaken, [], []⟩
def d_law_turned : He.DefD := ⟨("_law_turned", none), "_law_turned", "_law_turned", defArgs s_law_turned, defBody s_law_turned, defScope s_law_turned, [], []⟩
def d_law_swapped : He.DefD := ⟨("_law_swapped", none), "_law_swapped", "_law_swapped", defArgs s_law_swapped, defBody s_law_swapped, defScope s_law_swapped, [], []⟩
def d_law_left : He.DefD := ⟨("_law_left", none), "_law_left", "_law_left", defArgs s_law_left, defBody s_law_left, defScope s_law_left, [], []⟩
def d_law_joined : He.DefD := ⟨("_law_joined", none), "_law_joined", "_law_joined", defArgs s_law_joined, defBody s_law_joined, defScope s_law_joined, [], []⟩
def d_law_loose : He.DefD := ⟨("_law_loose", none), "_law_loose", "_law_loose", defArgs s_law_loose, defBody s_law_loose, defScope s_law_loose, [], []⟩
def d_law_added : He.DefD := ⟨("_law_added", none), "_law_added", "_law_added", defArgs s_law_added, defBody s_law_added, defScope s_law_added, [], []⟩
def d_law_inside : He.DefD := ⟨("_law_inside", none), "_law_inside", "_law_inside", defArgs s_law_inside, defBody s_law_inside, defScope s_law_inside, [], []⟩
def d_law_match : He.DefD := ⟨("_law_match", none), "_law_match", "_law_match", defArgs s_law_match, defBody s_law_match, defScope s_law_match, [], []⟩
def d_law_book : He.DefD := ⟨("_law_book", none), "_law_book", "_law_book", defArgs s_law_book, defBody s_law_book, defScope s_law_book, [], []⟩
def d_law_moved : He.DefD := ⟨("_law_moved", none), "_law_moved", "_law_moved", defArgs s_law_moved, defBody s_law_moved, defScope s_law_moved, [], []⟩
def d_law_change : He.DefD := ⟨("_law_change", none), "_law_change", "_law_change", defArgs s_law_change, defBody s_law_change, defScope s_law_change, [], []⟩
def d_law : He.DefD := ⟨("law", none), "law", "law", defArgs s_law, defBody s_law, defScope s_law, [], []⟩
def d_Node_init : He.DefD := ⟨("Node", some "__init__"), "__init__", "Node.__init__", defArgs s_Node_init, defBody s_Node_init, defScope s_Node_init, [], []⟩
def d_Shape_init : He.DefD := ⟨("Shape", some "__init__"), "__init__", "Shape.__init__", defArgs s_Shape_init, defBody s_Shape_init, defScope s_Shape_init, [], []⟩
def d_Shape_eq : He.DefD := ⟨("Shape", some "__eq__"), "__eq__", "Shape.__eq__", defArgs s_Shape_eq, defBody s_Shape_eq, defScope s_Shape_eq, [], []⟩
def fn : List He.DefD := [d_is_name, d_bare_name, d_group_form, d_read_words, d_read_node, d_shape_of, d_lane_word, d_law_bag, d_law_draw, d_law_of, d_law_mixed, d_law_like, d_law_barred, d_law_named, d_law_names, d_law_many, d_law_leaves, d_law_under, d_law_group, d_law_tree, d_law_shape, d_law_text, d_law_high, d_law_form, d_law_nodes, d_law_way, d_law_shaken, d_law_turned, d_law_swapped, d_law_left, d_law_joined, d_law_loose, d_law_added, d_law_inside, d_law_match, d_law_book, d_law_moved, d_law_change, d_law, d_Node_init, d_Shape_init, d_Shape_eq]
def fa : List He.Fa := [.glo "is_name", .glo "bare_name", .glo "group_form", .glo "read_words", .glo "read_node", .glo "shape_of", .glo "lane_word", .glo "_law_bag", .glo "_law_draw", .glo "_law_of", .glo "_law_mixed", .glo "_law_like", .glo "_law_barred", .glo "_law_named", .glo "_law_names", .glo "_law_many", .glo "_law_leaves", .glo "_law_under", .glo "_law_group", .glo "_law_tree", .glo "_law_shape", .glo "_law_text", .glo "_law_high", .glo "_law_form", .glo "_law_nodes", .glo "_law_way", .glo "_law_shaken", .glo "_law_turned", .glo "_law_swapped", .glo "_law_left", .glo "_law_joined", .glo "_law_loose", .glo "_law_added", .glo "_law_inside", .glo "_law_match", .glo "_law_book", .glo "_law_moved", .glo "_law_change", .glo "law", .glo "BadShape", .glo "Unlike", .glo "TooMany", .glo "Node", .glo "Shape", .free "ValueError", .free "all", .free "bool", .free "enumerate", .free "int", .free "isinstance", .free "len", .free "list", .free "max", .free "min", .free "property", .free "range", .free "sorted", .free "str", .free "tuple", .str "LETTERS" "abcdefghijklmnopqrstuvwxyz", .str "DIGITS" "0123456789", .int "LONGEST_NAME" 8, .int "MOST_SIGNS" 400000, .glo "FIXED_WORDS", .int "MOST_LANES" 10, .int "MOST_NESTED" 8, .cls "Node", .cls "Shape", .mkr "Node", .mkr "Shape", .noat "Node" "inner", .noat "Node" "line", .noat "Node" "under", .noat "Node" "word", .noat "Node" "pattern", .noat "Node" "tall", .noat "Node" "has", .noat "Shape" "root", .noat "Shape" "height", .noat "Shape" "form", .meth "Shape" "__eq__"]
def tf : List (He.Defn × Str) := [(("_law_group", none), "_law_group"), (("_law_form", none), "_law_form"), (("group_form", none), "group_form"), (("Node", some "__init__"), "Node.__init__")]
def td : List He.Defn := tf.map (·.1)
def w_FIXED_WORDS : List Str := ["put", "take", "by", "without", "first", "last", "ahead", "behind", "strict", "turn", "due", "share", "newest", "past", "copy", "to", "on", "with", "as", "of", "done"]
def ex (K : PySem.W.Frag) : Bool := (decide ((tf.map fun p => (He.cT K p.1).2).Nodup)) && (He.tupB K "FIXED_WORDS" (w_FIXED_WORDS.map He.Dv.str)) && (decide (PySem.W.kitOne K (.type "str") (.ref (He.ga K "Node")) = some false)) && (LB.insB K (He.ga K "Node")) && (LB.insB K (He.ga K "Shape"))
abbrev R : PySem.W.OpenRow := PySem.W.OpenLaw.row PySem.Challenge.rw_turnskept_k03_whole_forms_say_same_but_f
abbrev hk : PySem.W.Hook := He.hookX 6 fa fn [] td ex
def ob (s : PySem.W.SharedT) : He.AlX := He.obsX 6 fa fn [] td ex (HandSHeadRun.getT s)
theorem ob_eq (s : PySem.W.SharedT) : ob s = hk.obs s.abs := He.obsX_eq (HandSHeadRun.getT_eq s)
def nm0 : List PySem.Str := ["_wall", "BadShape", "Unlike", "TooMany", "LETTERS", "DIGITS", "LONGEST_NAME", "MOST_SIGNS", "FIXED_WORDS", "is_name", "bare_name", "MOST_LANES", "MOST_NESTED", "Node", "group_form", "read_words", "read_node", "Shape", "shape_of", "lane_word", "_law_bag", "_law_draw", "_law_of", "_law_mixed", "_law_like", "_law_barred", "_law_named", "_law_names", "_law_many", "_law_leaves"]
def nm1 : List PySem.Str := ["_law_under", "_law_group", "_law_tree", "_law_shape", "_law_text", "_law_high", "_law_form", "_law_nodes", "_law_way", "_law_shaken", "_law_turned", "_law_swapped", "_law_left", "_law_joined", "_law_loose", "_law_added", "_law_inside", "_law_match", "_law_book", "_law_moved", "_law_change"]
def names : List PySem.Str := nm0 ++ nm1
abbrev lawPlace : Nat := 56
section
variable {P : Program} {w : World} {K : PySem.W.Frag} {mg : Str → Option Value} {base : Heap}
abbrev Tx (K : PySem.W.Frag) (mg : Str → Option Value) (base : Heap) : Prop := LB.TX fa fn tf ex K mg base
theorem g_is_name (T : Tx K mg base) : mg "is_name" = some (.ref (He.ga K "is_name")) := T.glo 0
theorem g_bare_name (T : Tx K mg base) : mg "bare_name" = some (.ref (He.ga K "bare_name")) := T.glo 1
theorem g_group_form (T : Tx K mg base) : mg "group_form" = some (.ref (He.ga K "group_form")) := T.glo 2
theorem g_read_words (T : Tx K mg base) : mg "read_words" = some (.ref (He.ga K "read_words")) := T.glo 3
theorem g_read_node (T : Tx K mg base) : mg "read_node" = some (.ref (He.ga K "read_node")) := T.glo 4
theorem g_shape_of (T : Tx K mg base) : mg "shape_of" = some (.ref (He.ga K "shape_of")) := T.glo 5
theorem g_lane_word (T : Tx K mg base) : mg "lane_word" = some (.ref (He.ga K "lane_word")) := T.glo 6
theorem g_law_bag (T : Tx K mg base) : mg "_law_bag" = some (.ref (He.ga K "_law_bag")) := T.glo 7
theorem g_law_draw (T : Tx K mg base) : mg "_law_draw" = some (.ref (He.ga K "_law_draw")) := T.glo 8
theorem g_law_of (T : Tx K mg base) : mg "_law_of" = some (.ref (He.ga K "_law_of")) := T.glo 9
theorem g_law_mixed (T : Tx K mg base) : mg "_law_mixed" = some (.ref (He.ga K "_law_mixed")) := T.glo 10
theorem g_law_like (T : Tx K mg base) : mg "_law_like" = some (.ref (He.ga K "_law_like")) := T.glo 11
theorem g_law_barred (T : Tx K mg base) : mg "_law_barred" = some (.ref (He.ga K "_law_barred")) := T.glo 12
theorem g_law_named (T : Tx K mg base) : mg "_law_named" = some (.ref (He.ga K "_law_named")) := T.glo 13
theorem g_law_names (T : Tx K mg base) : mg "_law_names" = some (.ref (He.ga K "_law_names")) := T.glo 14
theorem g_law_many (T : Tx K mg base) : mg "_law_many" = some (.ref (He.ga K "_law_many")) := T.glo 15
theorem g_law_leaves (T : Tx K mg base) : mg "_law_leaves" = some (.ref (He.ga K "_law_leaves")) := T.glo 16
theorem g_law_under (T : Tx K mg base) : mg "_law_under" = some (.ref (He.ga K "_law_under")) := T.glo 17
theorem g_law_group (T : Tx K mg base) : mg "_law_group" = some (.ref (He.ga K "_law_group")) := T.glo 18
theorem g_law_tree (T : Tx K mg base) : mg "_law_tree" = some (.ref (He.ga K "_law_tree")) := T.glo 19
theorem g_law_shape (T : Tx K mg base) : mg "_law_shape" = some (.ref (He.ga K "_law_shape")) := T.glo 20
theorem g_law_text (T : Tx K mg base) : mg "_law_text" = some (.ref (He.ga K "_law_text")) := T.glo 21
theorem g_law_high (T : Tx K mg base) : mg "_law_high" = some (.ref (He.ga K "_law_high")) := T.glo 22
theorem g_law_form (T : Tx K mg base) : mg "_law_form" = some (.ref (He.ga K "_law_form")) := T.glo 23
theorem g_law_nodes (T : Tx K mg base) : mg "_law_nodes" = some (.ref (He.ga K "_law_nodes")) := T.glo 24
theorem g_law_way (T : Tx K mg base) : mg "_law_way" = some (.ref (He.ga K "_law_way")) := T.glo 25
theorem g_law_shaken (T : Tx K mg base) : mg "_law_shaken" = some (.ref (He.ga K "_law_shaken")) := T.glo 26
theorem g_law_turned (T : Tx K mg base) : mg "_law_turned" = some (.ref (He.ga K "_law_turned")) := T.glo 27
theorem g_law_swapped (T : Tx K mg base) : mg "_law_swapped" = some (.ref (He.ga K "_law_swapped")) := T.glo 28
theorem g_law_left (T : Tx K mg base) : mg "_law_left" = some (.ref (He.ga K "_law_left")) := T.glo 29
theorem g_law_joined (T : Tx K mg base) : mg "_law_joined" = some (.ref (He.ga K "_law_joined")) := T.glo 30
theorem g_law_loose (T : Tx K mg base) : mg "_law_loose" = some (.ref (He.ga K "_law_loose")) := T.glo 31
theorem g_law_added (T : Tx K mg base) : mg "_law_added" = some (.ref (He.ga K "_law_added")) := T.glo 32
theorem g_law_inside (T : Tx K mg base) : mg "_law_inside" = some (.ref (He.ga K "_law_inside")) := T.glo 33
theorem g_law_match (T : Tx K mg base) : mg "_law_match" = some (.ref (He.ga K "_law_match")) := T.glo 34
theorem g_law_book (T : Tx K mg base) : mg "_law_book" = some (.ref (He.ga K "_law_book")) := T.glo 35
theorem g_law_moved (T : Tx K mg base) : mg "_law_moved" = some (.ref (He.ga K "_law_moved")) := T.glo 36
theorem g_law_change (T : Tx K mg base) : mg "_law_change" = some (.ref (He.ga K "_law_change")) := T.glo 37
theorem g_law (T : Tx K mg base) : mg "law" = some (.ref (He.ga K "law")) := T.glo 38
theorem g_BadShape (T : Tx K mg base) : mg "BadShape" = some (.ref (He.ga K "BadShape")) := T.glo 39
theorem g_Unlike (T : Tx K mg base) : mg "Unlike" = some (.ref (He.ga K "Unlike")) := T.glo 40
theorem g_TooMany (T : Tx K mg base) : mg "TooMany" = some (.ref (He.ga K "TooMany")) := T.glo 41
theorem g_Node (T : Tx K mg base) : mg "Node" = some (.ref (He.ga K "Node")) := T.glo 42
theorem g_Shape (T : Tx K mg base) : mg "Shape" = some (.ref (He.ga K "Shape")) := T.glo 43
theorem n_ValueError (T : Tx K mg base) : mg "ValueError" = none := T.free 44
theorem n_all (T : Tx K mg base) : mg "all" = none := T.free 45
theorem n_bool (T : Tx K mg base) : mg "bool" = none := T.free 46
theorem n_enumerate (T : Tx K mg base) : mg "enumerate" = none := T.free 47
theorem n_int (T : Tx K mg base) : mg "int" = none := T.free 48
theorem n_isinstance (T : Tx K mg base) : mg "isinstance" = none := T.free 49
theorem n_len (T : Tx K mg base) : mg "len" = none := T.free 50
theorem n_list (T : Tx K mg base) : mg "list" = none := T.free 51
theorem n_max (T : Tx K mg base) : mg "max" = none := T.free 52
theorem n_min (T : Tx K mg base) : mg "min" = none := T.free 53
theorem n_property (T : Tx K mg base) : mg "property" = none := T.free 54
theorem n_range (T : Tx K mg base) : mg "range" = none := T.free 55
theorem n_sorted (T : Tx K mg base) : mg "sorted" = none := T.free 56
theorem n_str (T : Tx K mg base) : mg "str" = none := T.free 57
theorem n_tuple (T : Tx K mg base) : mg "tuple" = none := T.free 58
theorem k_LETTERS (T : Tx K mg base) : ∃ u, mg "LETTERS" = some u ∧ RelV (.str "abcdefghijklmnopqrstuvwxyz") u := T.str 59
theorem k_DIGITS (T : Tx K mg base) : ∃ u, mg "DIGITS" = some u ∧ RelV (.str "0123456789") u := T.str 60
theorem k_LONGEST_NAME (T : Tx K mg base) : ∃ u, mg "LONGEST_NAME" = some u ∧ RelV (.int 8) u := T.int 61
theorem k_MOST_SIGNS (T : Tx K mg base) : ∃ u, mg "MOST_SIGNS" = some u ∧ RelV (.int 400000) u := T.int 62
theorem g_FIXED_WORDS (T : Tx K mg base) : mg "FIXED_WORDS" = some (.ref (He.ga K "FIXED_WORDS")) := T.glo 63
theorem k_MOST_LANES (T : Tx K mg base) : ∃ u, mg "MOST_LANES" = some u ∧ RelV (.int 10) u := T.int 64
theorem k_MOST_NESTED (T : Tx K mg base) : ∃ u, mg "MOST_NESTED" = some u ∧ RelV (.int 8) u := T.int 65
theorem cl_Node (T : Tx K mg base) : Cls K (He.ga K "Node") := T.cls 66
theorem cl_Shape (T : Tx K mg base) : Cls K (He.ga K "Shape") := T.cls 67
theorem mk_Node (T : Tx K mg base) : Mk K (He.ga K "Node") (He.ma K (He.ga K "Node") "__init__") := T.mkr 68
theorem mk_Shape (T : Tx K mg base) : Mk K (He.ga K "Shape") (He.ma K (He.ga K "Shape") "__init__") := T.mkr 69
theorem na_Node_inner (T : Tx K mg base) : NoAttr K (He.ga K "Node") "inner" := T.noat 70
theorem na_Node_line (T : Tx K mg base) : NoAttr K (He.ga K "Node") "line" := T.noat 71
theorem na_Node_under (T : Tx K mg base) : NoAttr K (He.ga K "Node") "under" := T.noat 72
theorem na_Node_word (T : Tx K mg base) : NoAttr K (He.ga K "Node") "word" := T.noat 73
theorem na_Node_pattern (T : Tx K mg base) : NoAttr K (He.ga K "Node") "pattern" := T.noat 74
theorem na_Node_tall (T : Tx K mg base) : NoAttr K (He.ga K "Node") "tall" := T.noat 75
theorem na_Node_has (T : Tx K mg base) : NoAttr K (He.ga K "Node") "has" := T.noat 76
theorem na_Shape_root (T : Tx K mg base) : NoAttr K (He.ga K "Shape") "root" := T.noat 77
theorem na_Shape_height (T : Tx K mg base) : NoAttr K (He.ga K "Shape") "height" := T.noat 78
theorem na_Shape_form (T : Tx K mg base) : NoAttr K (He.ga K "Shape") "form" := T.noat 79
theorem me_Shape_eq (T : Tx K mg base) : Meth K (He.ga K "Shape") "__eq__" (He.ma K (He.ga K "Shape") "__eq__") := T.meth 80
theorem t_FIXED_WORDS (T : Tx K mg base) (H : Hp) : SqT K H (He.ga K "FIXED_WORDS") (w_FIXED_WORDS.map V.str) := by
  have h := He.tupB_ok ((He.ba (He.ba (He.ba (He.ba T.ex).1).1).1).2) H
  rw [List.map_map] at h
  exact h
theorem e_0 (T : Tx K mg base) : (decide (PySem.W.kitOne K (.type "str") (.ref (He.ga K "Node")) = some false)) = true := (He.ba (He.ba (He.ba T.ex).1).1).2
theorem e_1 (T : Tx K mg base) : (LB.insB K (He.ga K "Node")) = true := (He.ba (He.ba T.ex).1).2
theorem e_2 (T : Tx K mg base) : (LB.insB K (He.ga K "Shape")) = true := (He.ba T.ex).2
abbrev N_is_name : List Str := ["value", "sign"]
theorem sc_is_name : FnScope N_is_name ["value"] (defScope s_is_name) := ⟨rfl, rfl, rfl, by decide +kernel, rfl, by decide +kernel, by decide +kernel⟩
theorem fn_is_name (T : Tx K mg base) {k : Nat} {sp : Sp} (len : ∀ vs H Q E, sp vs H Q E → vs.length = 1)
    (hbody : ∀ (A : Around) (outer : List Env) (s : Shared) (H : Hp) (vs : List V) (Q : VK) (E : XK), Room k (A.deeper (envOfC "is_name" (defScope s_is_name) s.heap.objs.size (He.fAd K d_is_name.at_) (.ref (He.cT K d_is_name.at_).1))) → sp vs H Q E →
      ∃ t, PSs (cxOf L2.CX0 P w K mg base N_is_name "is_name" (defScope s_is_name) (He.fAd K d_is_name.at_) (.ref (He.cT K d_is_name.at_).1) A outer s H E).nox (defBody s_is_name) t ∧ t { nx := fun _ H' => Q .non H', rt := Q } (L2.start N_is_name vs) H) :
    ∃ fd, FnOk P w K mg base L2.CX0 (k + 1) (He.fAd K d_is_name.at_) fd ["value"] sp ∧ PySem.W.keepIn K (.ref (He.fAd K d_is_name.at_)) = true ∧ Binds K fd ["value"] [] :=
  LB.fnok_mk T (d := d_is_name) 0 rfl rfl rfl sc_is_name (fun _ _ _ _ _ _ us hl => match us, hl with | [_], _ => rfl) len hbody
abbrev N_bare_name : List Str := ["word"]
theorem sc_bare_name : FnScope N_bare_name ["word"] (defScope s_bare_name) := ⟨rfl, rfl, rfl, by decide +kernel, rfl, by decide +kernel, by decide +kernel⟩
theorem fn_bare_name (T : Tx K mg base) {k : Nat} {sp : Sp} (len : ∀ vs H Q E, sp vs H Q E → vs.length = 1)
    (hbody : ∀ (A : Around) (outer : List Env) (s : Shared) (H : Hp) (vs : List V) (Q : VK) (E : XK), Room k (A.deeper (envOfC "bare_name" (defScope s_bare_name) s.heap.objs.size (He.fAd K d_bare_name.at_) (.ref (He.cT K d_bare_name.at_).1))) → sp vs H Q E →
      ∃ t, PSs (cxOf L2.CX0 P w K mg base N_bare_name "bare_name" (defScope s_bare_name) (He.fAd K d_bare_name.at_) (.ref (He.cT K d_bare_name.at_).1) A outer s H E).nox (defBody s_bare_name) t ∧ t { nx := fun _ H' => Q .non H', rt := Q } (L2.start N_bare_name vs) H) :
    ∃ fd, FnOk P w K mg base L2.CX0 (k + 1) (He.fAd K d_bare_name.at_) fd ["word"] sp ∧ PySem.W.keepIn K (.ref (He.fAd K d_bare_name.at_)) = true ∧ Binds K fd ["word"] [] :=
  LB.fnok_mk T (d := d_bare_name) 1 rfl rfl rfl sc_bare_name (fun _ _ _ _ _ _ us hl => match us, hl with | [_], _ => rfl) len hbody
abbrev N_group_form : List Str := ["forms"]
theorem sc_group_form : FnScope N_group_form ["forms"] (defScope s_group_form) := ⟨rfl, rfl, rfl, by decide +kernel, rfl, by decide +kernel, by decide +kernel⟩
theorem fn_group_form (T : Tx K mg base) {k : Nat} {sp : Sp} (len : ∀ vs H Q E, sp vs H Q E → vs.length = 1)
    (hbody : ∀ (A : Around) (outer : List Env) (s : Shared) (H : Hp) (vs : List V) (Q : VK) (E : XK), Room k (A.deeper (envOfC "group_form" (defScope s_group_form) s.heap.objs.size (He.fAd K d_group_form.at_) (.ref (He.cT K d_group_form.at_).1))) → sp vs H Q E →
      ∃ t, PSs (cxOf L2.CX0 P w K mg base N_group_form "group_form" (defScope s_group_form) (He.fAd K d_group_form.at_) (.ref (He.cT K d_group_form.at_).1) A outer s H E).nox (defBody s_group_form) t ∧ t { nx := fun _ H' => Q .non H', rt := Q } (L2.start N_group_form vs) H) :
    ∃ fd, FnOk P w K mg base L2.CX0 (k + 1) (He.fAd K d_group_form.at_) fd ["forms"] sp ∧ PySem.W.keepIn K (.ref (He.fAd K d_group_form.at_)) = true ∧ Binds K fd ["forms"] [] :=
  LB.fnok_mk T (d := d_group_form) 2 rfl rfl rfl sc_group_form (fun _ _ _ _ _ _ us hl => match us, hl with | [_], _ => rfl) len hbody
abbrev N_read_words : List Str := ["words", "levels", "seen", "at", "word", "inner", "name"]
theorem sc_read_words : FnScope N_read_words ["words"] (defScope s_read_words) := ⟨rfl, rfl, rfl, by decide +kernel, rfl, by decide +kernel, by decide +kernel⟩
theorem fn_read_words (T : Tx K mg base) {k : Nat} {sp : Sp} (len : ∀ vs H Q E, sp vs H Q E → vs.length = 1)
    (hbody : ∀ (A : Around) (outer : List Env) (s : Shared) (H : Hp) (vs : List V) (Q : VK) (E : XK), Room k (A.deeper (envOfC "read_words" (defScope s_read_words) s.heap.objs.size (He.fAd K d_read_words.at_) (.ref (He.cT K d_read_words.at_).1))) → sp vs H Q E →
      ∃ t, PSs (cxOf L2.CX0 P w K mg base N_read_words "read_words" (defScope s_read_words) (He.fAd K d_read_words.at_) (.ref (He.cT K d_read_words.at_).1) A outer s H E).nox (defBody s_read_words) t ∧ t { nx := fun _ H' => Q .non H', rt := Q } (L2.start N_read_words vs) H) :
    ∃ fd, FnOk P w K mg base L2.CX0 (k + 1) (He.fAd K d_read_words.at_) fd ["words"] sp ∧ PySem.W.keepIn K (.ref (He.fAd K d_read_words.at_)) = true ∧ Binds K fd ["words"] [] :=
  LB.fnok_mk T (d := d_read_words) 3 rfl rfl rfl sc_read_words (fun _ _ _ _ _ _ us hl => match us, hl with | [_], _ => rfl) len hbody
abbrev N_read_node : List Str := ["text"]
theorem sc_read_node : FnScope N_read_node ["text"] (defScope s_read_node) := ⟨rfl, rfl, rfl, by decide +kernel, rfl, by decide +kernel, by decide +kernel⟩
theorem fn_read_node (T : Tx K mg base) {k : Nat} {sp : Sp} (len : ∀ vs H Q E, sp vs H Q E → vs.length = 1)
    (hbody : ∀ (A : Around) (outer : List Env) (s : Shared) (H : Hp) (vs : List V) (Q : VK) (E : XK), Room k (A.deeper (envOfC "read_node" (defScope s_read_node) s.heap.objs.size (He.fAd K d_read_node.at_) (.ref (He.cT K d_read_node.at_).1))) → sp vs H Q E →
      ∃ t, PSs (cxOf L2.CX0 P w K mg base N_read_node "read_node" (defScope s_read_node) (He.fAd K d_read_node.at_) (.ref (He.cT K d_read_node.at_).1) A outer s H E).nox (defBody s_read_node) t ∧ t { nx := fun _ H' => Q .non H', rt := Q } (L2.start N_read_node vs) H) :
    ∃ fd, FnOk P w K mg base L2.CX0 (k + 1) (He.fAd K d_read_node.at_) fd ["text"] sp ∧ PySem.W.keepIn K (.ref (He.fAd K d_read_node.at_)) = true ∧ Binds K fd ["text"] [] :=
  LB.fnok_mk T (d := d_read_node) 4 rfl rfl rfl sc_read_node (fun _ _ _ _ _ _ us hl => match us, hl with | [_], _ => rfl) len hbody
abbrev N_shape_of : List Str := ["form", "names", "words", "at", "sign"]
theorem sc_shape_of : FnScope N_shape_of ["form", "names"] (defScope s_shape_of) := ⟨rfl, rfl, rfl, by decide +kernel, rfl, by decide +kernel, by decide +kernel⟩
theorem fn_shape_of (T : Tx K mg base) {k : Nat} {sp : Sp} (len : ∀ vs H Q E, sp vs H Q E → vs.length = 2)
    (hbody : ∀ (A : Around) (outer : List Env) (s : Shared) (H : Hp) (vs : List V) (Q : VK) (E : XK), Room k (A.deeper (envOfC "shape_of" (defScope s_shape_of) s.heap.objs.size (He.fAd K d_shape_of.at_) (.ref (He.cT K d_shape_of.at_).1))) → sp vs H Q E →
      ∃ t, PSs (cxOf L2.CX0 P w K mg base N_shape_of "shape_of" (defScope s_shape_of) (He.fAd K d_shape_of.at_) (.ref (He.cT K d_shape_of.at_).1) A outer s H E).nox (defBody s_shape_of) t ∧ t { nx := fun _ H' => Q .non H', rt := Q } (L2.start N_shape_of vs) H) :
    ∃ fd, FnOk P w K mg base L2.CX0 (k + 1) (He.fAd K d_shape_of.at_) fd ["form", "names"] sp ∧ PySem.W.keepIn K (.ref (He.fAd K d_shape_of.at_)) = true ∧ Binds K fd ["form", "names"] [] :=
  LB.fnok_mk T (d := d_shape_of) 5 rfl rfl rfl sc_shape_of (fun _ _ _ _ _ _ us hl => match us, hl with | [_, _], _ => rfl) len hbody
abbrev N_lane_word : List Str := ["name", "sign"]
theorem sc_lane_word : FnScope N_lane_word ["name", "sign"] (defScope s_lane_word) := ⟨rfl, rfl, rfl, by decide +kernel, rfl, by decide +kernel, by decide +kernel⟩
theorem fn_lane_word (T : Tx K mg base) {k : Nat} {sp : Sp} (len : ∀ vs H Q E, sp vs H Q E → vs.length = 2)
    (hbody : ∀ (A : Around) (outer : List Env) (s : Shared) (H : Hp) (vs : List V) (Q : VK) (E : XK), Room k (A.deeper (envOfC "lane_word" (defScope s_lane_word) s.heap.objs.size (He.fAd K d_lane_word.at_) (.ref (He.cT K d_lane_word.at_).1))) → sp vs H Q E →
      ∃ t, PSs (cxOf L2.CX0 P w K mg base N_lane_word "lane_word" (defScope s_lane_word) (He.fAd K d_lane_word.at_) (.ref (He.cT K d_lane_word.at_).1) A outer s H E).nox (defBody s_lane_word) t ∧ t { nx := fun _ H' => Q .non H', rt := Q } (L2.start N_lane_word vs) H) :
    ∃ fd, FnOk P w K mg base L2.CX0 (k + 1) (He.fAd K d_lane_word.at_) fd ["name", "sign"] sp ∧ PySem.W.keepIn K (.ref (He.fAd K d_lane_word.at_)) = true ∧ Binds K fd ["name", "sign"] [] :=
  LB.fnok_mk T (d := d_lane_word) 6 rfl rfl rfl sc_lane_word (fun _ _ _ _ _ _ us hl => match us, hl with | [_, _], _ => rfl) len hbody
abbrev N_law_bag : List Str := ["script", "mixed", "item"]
theorem sc_law_bag : FnScope N_law_bag ["script"] (defScope s_law_bag) := ⟨rfl, rfl, rfl, by decide +kernel, rfl, by decide +kernel, by decide +kernel⟩
theorem fn_law_bag (T : Tx K mg base) {k : Nat} {sp : Sp} (len : ∀ vs H Q E, sp vs H Q E → vs.length = 1)
    (hbody : ∀ (A : Around) (outer : List Env) (s : Shared) (H : Hp) (vs : List V) (Q : VK) (E : XK), Room k (A.deeper (envOfC "_law_bag" (defScope s_law_bag) s.heap.objs.size (He.fAd K d_law_bag.at_) (.ref (He.cT K d_law_bag.at_).1))) → sp vs H Q E →
      ∃ t, PSs (cxOf L2.CX0 P w K mg base N_law_bag "_law_bag" (defScope s_law_bag) (He.fAd K d_law_bag.at_) (.ref (He.cT K d_law_bag.at_).1) A outer s H E).nox (defBody s_law_bag) t ∧ t { nx := fun _ H' => Q .non H', rt := Q } (L2.start N_law_bag vs) H) :
    ∃ fd, FnOk P w K mg base L2.CX0 (k + 1) (He.fAd K d_law_bag.at_) fd ["script"] sp ∧ PySem.W.keepIn K (.ref (He.fAd K d_law_bag.at_)) = true ∧ Binds K fd ["script"] [] :=
  LB.fnok_mk T (d := d_law_bag) 7 rfl rfl rfl sc_law_bag (fun _ _ _ _ _ _ us hl => match us, hl with | [_], _ => rfl) len hbody
abbrev N_law_draw : List Str := ["bag", "size", "item", "digit"]
theorem sc_law_draw : FnScope N_law_draw ["bag", "size"] (defScope s_law_draw) := ⟨rfl, rfl, rfl, by decide +kernel, rfl, by decide +kernel, by decide +kernel⟩
theorem fn_law_draw (T : Tx K mg base) {k : Nat} {sp : Sp} (len : ∀ vs H Q E, sp vs H Q E → vs.length = 2)
    (hbody : ∀ (A : Around) (outer : List Env) (s : Shared) (H : Hp) (vs : List V) (Q : VK) (E : XK), Room k (A.deeper (envOfC "_law_draw" (defScope s_law_draw) s.heap.objs.size (He.fAd K d_law_draw.at_) (.ref (He.cT K d_law_draw.at_).1))) → sp vs H Q E →
      ∃ t, PSs (cxOf L2.CX0 P w K mg base N_law_draw "_law_draw" (defScope s_law_draw) (He.fAd K d_law_draw.at_) (.ref (He.cT K d_law_draw.at_).1) A outer s H E).nox (defBody s_law_draw) t ∧ t { nx := fun _ H' => Q .non H', rt := Q } (L2.start N_law_draw vs) H) :
    ∃ fd, FnOk P w K mg base L2.CX0 (k + 1) (He.fAd K d_law_draw.at_) fd ["bag", "size"] sp ∧ PySem.W.keepIn K (.ref (He.fAd K d_law_draw.at_)) = true ∧ Binds K fd ["bag", "size"] [] :=
  LB.fnok_mk T (d := d_law_draw) 8 rfl rfl rfl sc_law_draw (fun _ _ _ _ _ _ us hl => match us, hl with | [_, _], _ => rfl) len hbody
abbrev N_law_of : List Str := ["bag", "things"]
theorem sc_law_of : FnScope N_law_of ["bag", "things"] (defScope s_law_of) := ⟨rfl, rfl, rfl, by decide +kernel, rfl, by decide +kernel, by decide +kernel⟩
theorem fn_law_of (T : Tx K mg base) {k : Nat} {sp : Sp} (len : ∀ vs H Q E, sp vs H Q E → vs.length = 2)
    (hbody : ∀ (A : Around) (outer : List Env) (s : Shared) (H : Hp) (vs : List V) (Q : VK) (E : XK), Room k (A.deeper (envOfC "_law_of" (defScope s_law_of) s.heap.objs.size (He.fAd K d_law_of.at_) (.ref (He.cT K d_law_of.at_).1))) → sp vs H Q E →
      ∃ t, PSs (cxOf L2.CX0 P w K mg base N_law_of "_law_of" (defScope s_law_of) (He.fAd K d_law_of.at_) (.ref (He.cT K d_law_of.at_).1) A outer s H E).nox (defBody s_law_of) t ∧ t { nx := fun _ H' => Q .non H', rt := Q } (L2.start N_law_of vs) H) :
    ∃ fd, FnOk P w K mg base L2.CX0 (k + 1) (He.fAd K d_law_of.at_) fd ["bag", "things"] sp ∧ PySem.W.keepIn K (.ref (He.fAd K d_law_of.at_)) = true ∧ Binds K fd ["bag", "things"] [] :=
  LB.fnok_mk T (d := d_law_of) 9 rfl rfl rfl sc_law_of (fun _ _ _ _ _ _ us hl => match us, hl with | [_, _], _ => rfl) len hbody
abbrev N_law_mixed : List Str := ["bag", "things", "left", "row", "k"]
theorem sc_law_mixed : FnScope N_law_mixed ["bag", "things"] (defScope s_law_mixed) := ⟨rfl, rfl, rfl, by decide +kernel, rfl, by decide +kernel, by decide +kernel⟩
theorem fn_law_mixed (T : Tx K mg base) {k : Nat} {sp : Sp} (len : ∀ vs H Q E, sp vs H Q E → vs.length = 2)
    (hbody : ∀ (A : Around) (outer : List Env) (s : Shared) (H : Hp) (vs : List V) (Q : VK) (E : XK), Room k (A.deeper (envOfC "_law_mixed" (defScope s_law_mixed) s.heap.objs.size (He.fAd K d_law_mixed.at_) (.ref (He.cT K d_law_mixed.at_).1))) → sp vs H Q E →
      ∃ t, PSs (cxOf L2.CX0 P w K mg base N_law_mixed "_law_mixed" (defScope s_law_mixed) (He.fAd K d_law_mixed.at_) (.ref (He.cT K d_law_mixed.at_).1) A outer s H E).nox (defBody s_law_mixed) t ∧ t { nx := fun _ H' => Q .non H', rt := Q } (L2.start N_law_mixed vs) H) :
    ∃ fd, FnOk P w K mg base L2.CX0 (k + 1) (He.fAd K d_law_mixed.at_) fd ["bag", "things"] sp ∧ PySem.W.keepIn K (.ref (He.fAd K d_law_mixed.at_)) = true ∧ Binds K fd ["bag", "things"] [] :=
  LB.fnok_mk T (d := d_law_mixed) 10 rfl rfl rfl sc_law_mixed (fun _ _ _ _ _ _ us hl => match us, hl with | [_, _], _ => rfl) len hbody
abbrev N_law_like : List Str := ["told", "due", "k"]
theorem sc_law_like : FnScope N_law_like ["told", "due"] (defScope s_law_like) := ⟨rfl, rfl, rfl, by decide +kernel, rfl, by decide +kernel, by decide +kernel⟩
theorem fn_law_like (T : Tx K mg base) {k : Nat} {sp : Sp} (len : ∀ vs H Q E, sp vs H Q E → vs.length = 2)
    (hbody : ∀ (A : Around) (outer : List Env) (s : Shared) (H : Hp) (vs : List V) (Q : VK) (E : XK), Room k (A.deeper (envOfC "_law_like" (defScope s_law_like) s.heap.objs.size (He.fAd K d_law_like.at_) (.ref (He.cT K d_law_like.at_).1))) → sp vs H Q E →
      ∃ t, PSs (cxOf L2.CX0 P w K mg base N_law_like "_law_like" (defScope s_law_like) (He.fAd K d_law_like.at_) (.ref (He.cT K d_law_like.at_).1) A outer s H E).nox (defBody s_law_like) t ∧ t { nx := fun _ H' => Q .non H', rt := Q } (L2.start N_law_like vs) H) :
    ∃ fd, FnOk P w K mg base L2.CX0 (k + 1) (He.fAd K d_law_like.at_) fd ["told", "due"] sp ∧ PySem.W.keepIn K (.ref (He.fAd K d_law_like.at_)) = true ∧ Binds K fd ["told", "due"] [] :=
  LB.fnok_mk T (d := d_law_like) 11 rfl rfl rfl sc_law_like (fun _ _ _ _ _ _ us hl => match us, hl with | [_, _], _ => rfl) len hbody
abbrev N_law_barred : List Str := []
theorem sc_law_barred : FnScope N_law_barred [] (defScope s_law_barred) := ⟨rfl, rfl, rfl, by decide +kernel, rfl, by decide +kernel, by decide +kernel⟩
theorem fn_law_barred (T : Tx K mg base) {k : Nat} {sp : Sp} (len : ∀ vs H Q E, sp vs H Q E → vs.length = 0)
    (hbody : ∀ (A : Around) (outer : List Env) (s : Shared) (H : Hp) (vs : List V) (Q : VK) (E : XK), Room k (A.deeper (envOfC "_law_barred" (defScope s_law_barred) s.heap.objs.size (He.fAd K d_law_barred.at_) (.ref (He.cT K d_law_barred.at_).1))) → sp vs H Q E →
      ∃ t, PSs (cxOf L2.CX0 P w K mg base N_law_barred "_law_barred" (defScope s_law_barred) (He.fAd K d_law_barred.at_) (.ref (He.cT K d_law_barred.at_).1) A outer s H E).nox (defBody s_law_barred) t ∧ t { nx := fun _ H' => Q .non H', rt := Q } (L2.start N_law_barred vs) H) :
    ∃ fd, FnOk P w K mg base L2.CX0 (k + 1) (He.fAd K d_law_barred.at_) fd [] sp ∧ PySem.W.keepIn K (.ref (He.fAd K d_law_barred.at_)) = true ∧ Binds K fd [] [] :=
  LB.fnok_mk T (d := d_law_barred) 12 rfl rfl rfl sc_law_barred (fun _ _ _ _ _ _ us hl => match us, hl with | [], _ => rfl) len hbody
abbrev N_law_named : List Str := ["word", "k"]
theorem sc_law_named : FnScope N_law_named ["word"] (defScope s_law_named) := ⟨rfl, rfl, rfl, by decide +kernel, rfl, by decide +kernel, by decide +kernel⟩
theorem fn_law_named (T : Tx K mg base) {k : Nat} {sp : Sp} (len : ∀ vs H Q E, sp vs H Q E → vs.length = 1)
    (hbody : ∀ (A : Around) (outer : List Env) (s : Shared) (H : Hp) (vs : List V) (Q : VK) (E : XK), Room k (A.deeper (envOfC "_law_named" (defScope s_law_named) s.heap.objs.size (He.fAd K d_law_named.at_) (.ref (He.cT K d_law_named.at_).1))) → sp vs H Q E →
      ∃ t, PSs (cxOf L2.CX0 P w K mg base N_law_named "_law_named" (defScope s_law_named) (He.fAd K d_law_named.at_) (.ref (He.cT K d_law_named.at_).1) A outer s H E).nox (defBody s_law_named) t ∧ t { nx := fun _ H' => Q .non H', rt := Q } (L2.start N_law_named vs) H) :
    ∃ fd, FnOk P w K mg base L2.CX0 (k + 1) (He.fAd K d_law_named.at_) fd ["word"] sp ∧ PySem.W.keepIn K (.ref (He.fAd K d_law_named.at_)) = true ∧ Binds K fd ["word"] [] :=
  LB.fnok_mk T (d := d_law_named) 13 rfl rfl rfl sc_law_named (fun _ _ _ _ _ _ us hl => match us, hl with | [_], _ => rfl) len hbody
abbrev N_law_names : List Str := ["bag", "many", "pool", "known", "turn", "word", "k", "stem"]
theorem sc_law_names : FnScope N_law_names ["bag", "many"] (defScope s_law_names) := ⟨rfl, rfl, rfl, by decide +kernel, rfl, by decide +kernel, by decide +kernel⟩
theorem fn_law_names (T : Tx K mg base) {k : Nat} {sp : Sp} (len : ∀ vs H Q E, sp vs H Q E → vs.length = 2)
    (hbody : ∀ (A : Around) (outer : List Env) (s : Shared) (H : Hp) (vs : List V) (Q : VK) (E : XK), Room k (A.deeper (envOfC "_law_names" (defScope s_law_names) s.heap.objs.size (He.fAd K d_law_names.at_) (.ref (He.cT K d_law_names.at_).1))) → sp vs H Q E →
      ∃ t, PSs (cxOf L2.CX0 P w K mg base N_law_names "_law_names" (defScope s_law_names) (He.fAd K d_law_names.at_) (.ref (He.cT K d_law_names.at_).1) A outer s H E).nox (defBody s_law_names) t ∧ t { nx := fun _ H' => Q .non H', rt := Q } (L2.start N_law_names vs) H) :
    ∃ fd, FnOk P w K mg base L2.CX0 (k + 1) (He.fAd K d_law_names.at_) fd ["bag", "many"] sp ∧ PySem.W.keepIn K (.ref (He.fAd K d_law_names.at_)) = true ∧ Binds K fd ["bag", "many"] [] :=
  LB.fnok_mk T (d := d_law_names) 14 rfl rfl rfl sc_law_names (fun _ _ _ _ _ _ us hl => match us, hl with | [_, _], _ => rfl) len hbody
abbrev N_law_many : List Str := ["bag", "pick"]
theorem sc_law_many : FnScope N_law_many ["bag"] (defScope s_law_many) := ⟨rfl, rfl, rfl, by decide +kernel, rfl, by decide +kernel, by decide +kernel⟩
theorem fn_law_many (T : Tx K mg base) {k : Nat} {sp : Sp} (len : ∀ vs H Q E, sp vs H Q E → vs.length = 1)
    (hbody : ∀ (A : Around) (outer : List Env) (s : Shared) (H : Hp) (vs : List V) (Q : VK) (E : XK), Room k (A.deeper (envOfC "_law_many" (defScope s_law_many) s.heap.objs.size (He.fAd K d_law_many.at_) (.ref (He.cT K d_law_many.at_).1))) → sp vs H Q E →
      ∃ t, PSs (cxOf L2.CX0 P w K mg base N_law_many "_law_many" (defScope s_law_many) (He.fAd K d_law_many.at_) (.ref (He.cT K d_law_many.at_).1) A outer s H E).nox (defBody s_law_many) t ∧ t { nx := fun _ H' => Q .non H', rt := Q } (L2.start N_law_many vs) H) :
    ∃ fd, FnOk P w K mg base L2.CX0 (k + 1) (He.fAd K d_law_many.at_) fd ["bag"] sp ∧ PySem.W.keepIn K (.ref (He.fAd K d_law_many.at_)) = true ∧ Binds K fd ["bag"] [] :=
  LB.fnok_mk T (d := d_law_many) 15 rfl rfl rfl sc_law_many (fun _ _ _ _ _ _ us hl => match us, hl with | [_], _ => rfl) len hbody
abbrev N_law_leaves : List Str := ["bag", "words", "some", "word"]
theorem sc_law_leaves : FnScope N_law_leaves ["bag", "words"] (defScope s_law_leaves) := ⟨rfl, rfl, rfl, by decide +kernel, rfl, by decide +kernel, by decide +kernel⟩
theorem fn_law_leaves (T : Tx K mg base) {k : Nat} {sp : Sp} (len : ∀ vs H Q E, sp vs H Q E → vs.length = 2)
    (hbody : ∀ (A : Around) (outer : List Env) (s : Shared) (H : Hp) (vs : List V) (Q : VK) (E : XK), Room k (A.deeper (envOfC "_law_leaves" (defScope s_law_leaves) s.heap.objs.size (He.fAd K d_law_leaves.at_) (.ref (He.cT K d_law_leaves.at_).1))) → sp vs H Q E →
      ∃ t, PSs (cxOf L2.CX0 P w K mg base N_law_leaves "_law_leaves" (defScope s_law_leaves) (He.fAd K d_law_leaves.at_) (.ref (He.cT K d_law_leaves.at_).1) A outer s H E).nox (defBody s_law_leaves) t ∧ t { nx := fun _ H' => Q .non H', rt := Q } (L2.start N_law_leaves vs) H) :
    ∃ fd, FnOk P w K mg base L2.CX0 (k + 1) (He.fAd K d_law_leaves.at_) fd ["bag", "words"] sp ∧ PySem.W.keepIn K (.ref (He.fAd K d_law_leaves.at_)) = true ∧ Binds K fd ["bag", "words"] [] :=
  LB.fnok_mk T (d := d_law_leaves) 16 rfl rfl rfl sc_law_leaves (fun _ _ _ _ _ _ us hl => match us, hl with | [_, _], _ => rfl) len hbody
abbrev N_law_under : List Str := ["node", "found", "part"]
theorem sc_law_under : FnScope N_law_under ["node"] (defScope s_law_under) := ⟨rfl, rfl, rfl, by decide +kernel, rfl, by decide +kernel, by decide +kernel⟩
theorem fn_law_under (T : Tx K mg base) {k : Nat} {sp : Sp} (len : ∀ vs H Q E, sp vs H Q E → vs.length = 1)
    (hbody : ∀ (A : Around) (outer : List Env) (s : Shared) (H : Hp) (vs : List V) (Q : VK) (E : XK), Room k (A.deeper (envOfC "_law_under" (defScope s_law_under) s.heap.objs.size (He.fAd K d_law_under.at_) (.ref (He.cT K d_law_under.at_).1))) → sp vs H Q E →
      ∃ t, PSs (cxOf L2.CX0 P w K mg base N_law_under "_law_under" (defScope s_law_under) (He.fAd K d_law_under.at_) (.ref (He.cT K d_law_under.at_).1) A outer s H E).nox (defBody s_law_under) t ∧ t { nx := fun _ H' => Q .non H', rt := Q } (L2.start N_law_under vs) H) :
    ∃ fd, FnOk P w K mg base L2.CX0 (k + 1) (He.fAd K d_law_under.at_) fd ["node"] sp ∧ PySem.W.keepIn K (.ref (He.fAd K d_law_under.at_)) = true ∧ Binds K fd ["node"] [] :=
  LB.fnok_mk T (d := d_law_under) 17 rfl rfl rfl sc_law_under (fun _ _ _ _ _ _ us hl => match us, hl with | [_], _ => rfl) len hbody
abbrev N_law_group : List Str := ["nodes"]
theorem sc_law_group : FnScope N_law_group ["nodes"] (defScope s_law_group) := ⟨rfl, rfl, rfl, by decide +kernel, rfl, by decide +kernel, by decide +kernel⟩
theorem fn_law_group (T : Tx K mg base) {k : Nat} {sp : Sp} (len : ∀ vs H Q E, sp vs H Q E → vs.length = 1)
    (hbody : ∀ (A : Around) (outer : List Env) (s : Shared) (H : Hp) (vs : List V) (Q : VK) (E : XK), Room k (A.deeper (envOfC "_law_group" (defScope s_law_group) s.heap.objs.size (He.fAd K d_law_group.at_) (.ref (He.cT K d_law_group.at_).1))) → sp vs H Q E →
      ∃ t, PSs (cxOf L2.CX0 P w K mg base N_law_group "_law_group" (defScope s_law_group) (He.fAd K d_law_group.at_) (.ref (He.cT K d_law_group.at_).1) A outer s H E).nox (defBody s_law_group) t ∧ t { nx := fun _ H' => Q .non H', rt := Q } (L2.start N_law_group vs) H) :
    ∃ fd, FnOk P w K mg base L2.CX0 (k + 1) (He.fAd K d_law_group.at_) fd ["nodes"] sp ∧ PySem.W.keepIn K (.ref (He.fAd K d_law_group.at_)) = true ∧ Binds K fd ["nodes"] [] :=
  LB.fnok_mk T (d := d_law_group) 18 rfl rfl rfl sc_law_group (fun _ _ _ _ _ _ us hl => match us, hl with | [_], _ => rfl) len hbody
abbrev N_law_tree : List Str := ["bag", "leaves", "nodes", "turn", "many", "heap", "k", "pool", "j"]
theorem sc_law_tree : FnScope N_law_tree ["bag", "leaves"] (defScope s_law_tree) := ⟨rfl, rfl, rfl, by decide +kernel, rfl, by decide +kernel, by decide +kernel⟩
theorem fn_law_tree (T : Tx K mg base) {k : Nat} {sp : Sp} (len : ∀ vs H Q E, sp vs H Q E → vs.length = 2)
    (hbody : ∀ (A : Around) (outer : List Env) (s : Shared) (H : Hp) (vs : List V) (Q : VK) (E : XK), Room k (A.deeper (envOfC "_law_tree" (defScope s_law_tree) s.heap.objs.size (He.fAd K d_law_tree.at_) (.ref (He.cT K d_law_tree.at_).1))) → sp vs H Q E →
      ∃ t, PSs (cxOf L2.CX0 P w K mg base N_law_tree "_law_tree" (defScope s_law_tree) (He.fAd K d_law_tree.at_) (.ref (He.cT K d_law_tree.at_).1) A outer s H E).nox (defBody s_law_tree) t ∧ t { nx := fun _ H' => Q .non H', rt := Q } (L2.start N_law_tree vs) H) :
    ∃ fd, FnOk P w K mg base L2.CX0 (k + 1) (He.fAd K d_law_tree.at_) fd ["bag", "leaves"] sp ∧ PySem.W.keepIn K (.ref (He.fAd K d_law_tree.at_)) = true ∧ Binds K fd ["bag", "leaves"] [] :=
  LB.fnok_mk T (d := d_law_tree) 19 rfl rfl rfl sc_law_tree (fun _ _ _ _ _ _ us hl => match us, hl with | [_, _], _ => rfl) len hbody
abbrev N_law_shape : List Str := ["bag"]
theorem sc_law_shape : FnScope N_law_shape ["bag"] (defScope s_law_shape) := ⟨rfl, rfl, rfl, by decide +kernel, rfl, by decide +kernel, by decide +kernel⟩
theorem fn_law_shape (T : Tx K mg base) {k : Nat} {sp : Sp} (len : ∀ vs H Q E, sp vs H Q E → vs.length = 1)
    (hbody : ∀ (A : Around) (outer : List Env) (s : Shared) (H : Hp) (vs : List V) (Q : VK) (E : XK), Room k (A.deeper (envOfC "_law_shape" (defScope s_law_shape) s.heap.objs.size (He.fAd K d_law_shape.at_) (.ref (He.cT K d_law_shape.at_).1))) → sp vs H Q E →
      ∃ t, PSs (cxOf L2.CX0 P w K mg base N_law_shape "_law_shape" (defScope s_law_shape) (He.fAd K d_law_shape.at_) (.ref (He.cT K d_law_shape.at_).1) A outer s H E).nox (defBody s_law_shape) t ∧ t { nx := fun _ H' => Q .non H', rt := Q } (L2.start N_law_shape vs) H) :
    ∃ fd, FnOk P w K mg base L2.CX0 (k + 1) (He.fAd K d_law_shape.at_) fd ["bag"] sp ∧ PySem.W.keepIn K (.ref (He.fAd K d_law_shape.at_)) = true ∧ Binds K fd ["bag"] [] :=
  LB.fnok_mk T (d := d_law_shape) 20 rfl rfl rfl sc_law_shape (fun _ _ _ _ _ _ us hl => match us, hl with | [_], _ => rfl) len hbody
abbrev N_law_text : List Str := ["node", "part"]
theorem sc_law_text : FnScope N_law_text ["node"] (defScope s_law_text) := ⟨rfl, rfl, rfl, by decide +kernel, rfl, by decide +kernel, by decide +kernel⟩
theorem fn_law_text (T : Tx K mg base) {k : Nat} {sp : Sp} (len : ∀ vs H Q E, sp vs H Q E → vs.length = 1)
    (hbody : ∀ (A : Around) (outer : List Env) (s : Shared) (H : Hp) (vs : List V) (Q : VK) (E : XK), Room k (A.deeper (envOfC "_law_text" (defScope s_law_text) s.heap.objs.size (He.fAd K d_law_text.at_) (.ref (He.cT K d_law_text.at_).1))) → sp vs H Q E →
      ∃ t, PSs (cxOf L2.CX0 P w K mg base N_law_text "_law_text" (defScope s_law_text) (He.fAd K d_law_text.at_) (.ref (He.cT K d_law_text.at_).1) A outer s H E).nox (defBody s_law_text) t ∧ t { nx := fun _ H' => Q .non H', rt := Q } (L2.start N_law_text vs) H) :
    ∃ fd, FnOk P w K mg base L2.CX0 (k + 1) (He.fAd K d_law_text.at_) fd ["node"] sp ∧ PySem.W.keepIn K (.ref (He.fAd K d_law_text.at_)) = true ∧ Binds K fd ["node"] [] :=
  LB.fnok_mk T (d := d_law_text) 21 rfl rfl rfl sc_law_text (fun _ _ _ _ _ _ us hl => match us, hl with | [_], _ => rfl) len hbody
abbrev N_law_high : List Str := ["node", "part"]
theorem sc_law_high : FnScope N_law_high ["node"] (defScope s_law_high) := ⟨rfl, rfl, rfl, by decide +kernel, rfl, by decide +kernel, by decide +kernel⟩
theorem fn_law_high (T : Tx K mg base) {k : Nat} {sp : Sp} (len : ∀ vs H Q E, sp vs H Q E → vs.length = 1)
    (hbody : ∀ (A : Around) (outer : List Env) (s : Shared) (H : Hp) (vs : List V) (Q : VK) (E : XK), Room k (A.deeper (envOfC "_law_high" (defScope s_law_high) s.heap.objs.size (He.fAd K d_law_high.at_) (.ref (He.cT K d_law_high.at_).1))) → sp vs H Q E →
      ∃ t, PSs (cxOf L2.CX0 P w K mg base N_law_high "_law_high" (defScope s_law_high) (He.fAd K d_law_high.at_) (.ref (He.cT K d_law_high.at_).1) A outer s H E).nox (defBody s_law_high) t ∧ t { nx := fun _ H' => Q .non H', rt := Q } (L2.start N_law_high vs) H) :
    ∃ fd, FnOk P w K mg base L2.CX0 (k + 1) (He.fAd K d_law_high.at_) fd ["node"] sp ∧ PySem.W.keepIn K (.ref (He.fAd K d_law_high.at_)) = true ∧ Binds K fd ["node"] [] :=
  LB.fnok_mk T (d := d_law_high) 22 rfl rfl rfl sc_law_high (fun _ _ _ _ _ _ us hl => match us, hl with | [_], _ => rfl) len hbody
abbrev N_law_form : List Str := ["node", "part"]
theorem sc_law_form : FnScope N_law_form ["node"] (defScope s_law_form) := ⟨rfl, rfl, rfl, by decide +kernel, rfl, by decide +kernel, by decide +kernel⟩
theorem fn_law_form (T : Tx K mg base) {k : Nat} {sp : Sp} (len : ∀ vs H Q E, sp vs H Q E → vs.length = 1)
    (hbody : ∀ (A : Around) (outer : List Env) (s : Shared) (H : Hp) (vs : List V) (Q : VK) (E : XK), Room k (A.deeper (envOfC "_law_form" (defScope s_law_form) s.heap.objs.size (He.fAd K d_law_form.at_) (.ref (He.cT K d_law_form.at_).1))) → sp vs H Q E →
      ∃ t, PSs (cxOf L2.CX0 P w K mg base N_law_form "_law_form" (defScope s_law_form) (He.fAd K d_law_form.at_) (.ref (He.cT K d_law_form.at_).1) A outer s H E).nox (defBody s_law_form) t ∧ t { nx := fun _ H' => Q .non H', rt := Q } (L2.start N_law_form vs) H) :
    ∃ fd, FnOk P w K mg base L2.CX0 (k + 1) (He.fAd K d_law_form.at_) fd ["node"] sp ∧ PySem.W.keepIn K (.ref (He.fAd K d_law_form.at_)) = true ∧ Binds K fd ["node"] [] :=
  LB.fnok_mk T (d := d_law_form) 23 rfl rfl rfl sc_law_form (fun _ _ _ _ _ _ us hl => match us, hl with | [_], _ => rfl) len hbody
abbrev N_law_nodes : List Str := ["node", "found", "part"]
theorem sc_law_nodes : FnScope N_law_nodes ["node"] (defScope s_law_nodes) := ⟨rfl, rfl, rfl, by decide +kernel, rfl, by decide +kernel, by decide +kernel⟩
theorem fn_law_nodes (T : Tx K mg base) {k : Nat} {sp : Sp} (len : ∀ vs H Q E, sp vs H Q E → vs.length = 1)
    (hbody : ∀ (A : Around) (outer : List Env) (s : Shared) (H : Hp) (vs : List V) (Q : VK) (E : XK), Room k (A.deeper (envOfC "_law_nodes" (defScope s_law_nodes) s.heap.objs.size (He.fAd K d_law_nodes.at_) (.ref (He.cT K d_law_nodes.at_).1))) → sp vs H Q E →
      ∃ t, PSs (cxOf L2.CX0 P w K mg base N_law_nodes "_law_nodes" (defScope s_law_nodes) (He.fAd K d_law_nodes.at_) (.ref (He.cT K d_law_nodes.at_).1) A outer s H E).nox (defBody s_law_nodes) t ∧ t { nx := fun _ H' => Q .non H', rt := Q } (L2.start N_law_nodes vs) H) :
    ∃ fd, FnOk P w K mg base L2.CX0 (k + 1) (He.fAd K d_law_nodes.at_) fd ["node"] sp ∧ PySem.W.keepIn K (.ref (He.fAd K d_law_nodes.at_)) = true ∧ Binds K fd ["node"] [] :=
  LB.fnok_mk T (d := d_law_nodes) 24 rfl rfl rfl sc_law_nodes (fun _ _ _ _ _ _ us hl => match us, hl with | [_], _ => rfl) len hbody
abbrev N_law_way : List Str := ["tree", "word", "node"]
theorem sc_law_way : FnScope N_law_way ["tree", "word"] (defScope s_law_way) := ⟨rfl, rfl, rfl, by decide +kernel, rfl, by decide +kernel, by decide +kernel⟩
theorem fn_law_way (T : Tx K mg base) {k : Nat} {sp : Sp} (len : ∀ vs H Q E, sp vs H Q E → vs.length = 2)
    (hbody : ∀ (A : Around) (outer : List Env) (s : Shared) (H : Hp) (vs : List V) (Q : VK) (E : XK), Room k (A.deeper (envOfC "_law_way" (defScope s_law_way) s.heap.objs.size (He.fAd K d_law_way.at_) (.ref (He.cT K d_law_way.at_).1))) → sp vs H Q E →
      ∃ t, PSs (cxOf L2.CX0 P w K mg base N_law_way "_law_way" (defScope s_law_way) (He.fAd K d_law_way.at_) (.ref (He.cT K d_law_way.at_).1) A outer s H E).nox (defBody s_law_way) t ∧ t { nx := fun _ H' => Q .non H', rt := Q } (L2.start N_law_way vs) H) :
    ∃ fd, FnOk P w K mg base L2.CX0 (k + 1) (He.fAd K d_law_way.at_) fd ["tree", "word"] sp ∧ PySem.W.keepIn K (.ref (He.fAd K d_law_way.at_)) = true ∧ Binds K fd ["tree", "word"] [] :=
  LB.fnok_mk T (d := d_law_way) 25 rfl rfl rfl sc_law_way (fun _ _ _ _ _ _ us hl => match us, hl with | [_, _], _ => rfl) len hbody
abbrev N_law_shaken : List Str := ["bag", "node", "page", "part"]
theorem sc_law_shaken : FnScope N_law_shaken ["bag", "node"] (defScope s_law_shaken) := ⟨rfl, rfl, rfl, by decide +kernel, rfl, by decide +kernel, by decide +kernel⟩
theorem fn_law_shaken (T : Tx K mg base) {k : Nat} {sp : Sp} (len : ∀ vs H Q E, sp vs H Q E → vs.length = 2)
    (hbody : ∀ (A : Around) (outer : List Env) (s : Shared) (H : Hp) (vs : List V) (Q : VK) (E : XK), Room k (A.deeper (envOfC "_law_shaken" (defScope s_law_shaken) s.heap.objs.size (He.fAd K d_law_shaken.at_) (.ref (He.cT K d_law_shaken.at_).1))) → sp vs H Q E →
      ∃ t, PSs (cxOf L2.CX0 P w K mg base N_law_shaken "_law_shaken" (defScope s_law_shaken) (He.fAd K d_law_shaken.at_) (.ref (He.cT K d_law_shaken.at_).1) A outer s H E).nox (defBody s_law_shaken) t ∧ t { nx := fun _ H' => Q .non H', rt := Q } (L2.start N_law_shaken vs) H) :
    ∃ fd, FnOk P w K mg base L2.CX0 (k + 1) (He.fAd K d_law_shaken.at_) fd ["bag", "node"] sp ∧ PySem.W.keepIn K (.ref (He.fAd K d_law_shaken.at_)) = true ∧ Binds K fd ["bag", "node"] [] :=
  LB.fnok_mk T (d := d_law_shaken) 26 rfl rfl rfl sc_law_shaken (fun _ _ _ _ _ _ us hl => match us, hl with | [_, _], _ => rfl) len hbody
abbrev N_law_turned : List Str := ["node", "book", "part"]
theorem sc_law_turned : FnScope N_law_turned ["node", "book"] (defScope s_law_turned) := ⟨rfl, rfl, rfl, by decide +kernel, rfl, by decide +kernel, by decide +kernel⟩
theorem fn_law_turned (T : Tx K mg base) {k : Nat} {sp : Sp} (len : ∀ vs H Q E, sp vs H Q E → vs.length = 2)
    (hbody : ∀ (A : Around) (outer : List Env) (s : Shared) (H : Hp) (vs : List V) (Q : VK) (E : XK), Room k (A.deeper (envOfC "_law_turned" (defScope s_law_turned) s.heap.objs.size (He.fAd K d_law_turned.at_) (.ref (He.cT K d_law_turned.at_).1))) → sp vs H Q E →
      ∃ t, PSs (cxOf L2.CX0 P w K mg base N_law_turned "_law_turned" (defScope s_law_turned) (He.fAd K d_law_turned.at_) (.ref (He.cT K d_law_turned.at_).1) A outer s H E).nox (defBody s_law_turned) t ∧ t { nx := fun _ H' => Q .non H', rt := Q } (L2.start N_law_turned vs) H) :
    ∃ fd, FnOk P w K mg base L2.CX0 (k + 1) (He.fAd K d_law_turned.at_) fd ["node", "book"] sp ∧ PySem.W.keepIn K (.ref (He.fAd K d_law_turned.at_)) = true ∧ Binds K fd ["node", "book"] [] :=
  LB.fnok_mk T (d := d_law_turned) 27 rfl rfl rfl sc_law_turned (fun _ _ _ _ _ _ us hl => match us, hl with | [_, _], _ => rfl) len hbody
abbrev N_law_swapped : List Str := ["node", "word", "part"]
theorem sc_law_swapped : FnScope N_law_swapped ["node", "word"] (defScope s_law_swapped) := ⟨rfl, rfl, rfl, by decide +kernel, rfl, by decide +kernel, by decide +kernel⟩
theorem fn_law_swapped (T : Tx K mg base) {k : Nat} {sp : Sp} (len : ∀ vs H Q E, sp vs H Q E → vs.length = 2)
    (hbody : ∀ (A : Around) (outer : List Env) (s : Shared) (H : Hp) (vs : List V) (Q : VK) (E : XK), Room k (A.deeper (envOfC "_law_swapped" (defScope s_law_swapped) s.heap.objs.size (He.fAd K d_law_swapped.at_) (.ref (He.cT K d_law_swapped.at_).1))) → sp vs H Q E →
      ∃ t, PSs (cxOf L2.CX0 P w K mg base N_law_swapped "_law_swapped" (defScope s_law_swapped) (He.fAd K d_law_swapped.at_) (.ref (He.cT K d_law_swapped.at_).1) A outer s H E).nox (defBody s_law_swapped) t ∧ t { nx := fun _ H' => Q .non H', rt := Q } (L2.start N_law_swapped vs) H) :
    ∃ fd, FnOk P w K mg base L2.CX0 (k + 1) (He.fAd K d_law_swapped.at_) fd ["node", "word"] sp ∧ PySem.W.keepIn K (.ref (He.fAd K d_law_swapped.at_)) = true ∧ Binds K fd ["node", "word"] [] :=
  LB.fnok_mk T (d := d_law_swapped) 28 rfl rfl rfl sc_law_swapped (fun _ _ _ _ _ _ us hl => match us, hl with | [_, _], _ => rfl) len hbody
abbrev N_law_left : List Str := ["node", "words", "found", "part"]
theorem sc_law_left : FnScope N_law_left ["node", "words"] (defScope s_law_left) := ⟨rfl, rfl, rfl, by decide +kernel, rfl, by decide +kernel, by decide +kernel⟩
theorem fn_law_left (T : Tx K mg base) {k : Nat} {sp : Sp} (len : ∀ vs H Q E, sp vs H Q E → vs.length = 2)
    (hbody : ∀ (A : Around) (outer : List Env) (s : Shared) (H : Hp) (vs : List V) (Q : VK) (E : XK), Room k (A.deeper (envOfC "_law_left" (defScope s_law_left) s.heap.objs.size (He.fAd K d_law_left.at_) (.ref (He.cT K d_law_left.at_).1))) → sp vs H Q E →
      ∃ t, PSs (cxOf L2.CX0 P w K mg base N_law_left "_law_left" (defScope s_law_left) (He.fAd K d_law_left.at_) (.ref (He.cT K d_law_left.at_).1) A outer s H E).nox (defBody s_law_left) t ∧ t { nx := fun _ H' => Q .non H', rt := Q } (L2.start N_law_left vs) H) :
    ∃ fd, FnOk P w K mg base L2.CX0 (k + 1) (He.fAd K d_law_left.at_) fd ["node", "words"] sp ∧ PySem.W.keepIn K (.ref (He.fAd K d_law_left.at_)) = true ∧ Binds K fd ["node", "words"] [] :=
  LB.fnok_mk T (d := d_law_left) 29 rfl rfl rfl sc_law_left (fun _ _ _ _ _ _ us hl => match us, hl with | [_, _], _ => rfl) len hbody
abbrev N_law_joined : List Str := ["node", "words", "heap", "under", "part", "word"]
theorem sc_law_joined : FnScope N_law_joined ["node", "words"] (defScope s_law_joined) := ⟨rfl, rfl, rfl, by decide +kernel, rfl, by decide +kernel, by decide +kernel⟩
theorem fn_law_joined (T : Tx K mg base) {k : Nat} {sp : Sp} (len : ∀ vs H Q E, sp vs H Q E → vs.length = 2)
    (hbody : ∀ (A : Around) (outer : List Env) (s : Shared) (H : Hp) (vs : List V) (Q : VK) (E : XK), Room k (A.deeper (envOfC "_law_joined" (defScope s_law_joined) s.heap.objs.size (He.fAd K d_law_joined.at_) (.ref (He.cT K d_law_joined.at_).1))) → sp vs H Q E →
      ∃ t, PSs (cxOf L2.CX0 P w K mg base N_law_joined "_law_joined" (defScope s_law_joined) (He.fAd K d_law_joined.at_) (.ref (He.cT K d_law_joined.at_).1) A outer s H E).nox (defBody s_law_joined) t ∧ t { nx := fun _ H' => Q .non H', rt := Q } (L2.start N_law_joined vs) H) :
    ∃ fd, FnOk P w K mg base L2.CX0 (k + 1) (He.fAd K d_law_joined.at_) fd ["node", "words"] sp ∧ PySem.W.keepIn K (.ref (He.fAd K d_law_joined.at_)) = true ∧ Binds K fd ["node", "words"] [] :=
  LB.fnok_mk T (d := d_law_joined) 30 rfl rfl rfl sc_law_joined (fun _ _ _ _ _ _ us hl => match us, hl with | [_, _], _ => rfl) len hbody
abbrev N_law_loose : List Str := ["node", "words", "k", "part"]
theorem sc_law_loose : FnScope N_law_loose ["node", "words"] (defScope s_law_loose) := ⟨rfl, rfl, rfl, by decide +kernel, rfl, by decide +kernel, by decide +kernel⟩
theorem fn_law_loose (T : Tx K mg base) {k : Nat} {sp : Sp} (len : ∀ vs H Q E, sp vs H Q E → vs.length = 2)
    (hbody : ∀ (A : Around) (outer : List Env) (s : Shared) (H : Hp) (vs : List V) (Q : VK) (E : XK), Room k (A.deeper (envOfC "_law_loose" (defScope s_law_loose) s.heap.objs.size (He.fAd K d_law_loose.at_) (.ref (He.cT K d_law_loose.at_).1))) → sp vs H Q E →
      ∃ t, PSs (cxOf L2.CX0 P w K mg base N_law_loose "_law_loose" (defScope s_law_loose) (He.fAd K d_law_loose.at_) (.ref (He.cT K d_law_loose.at_).1) A outer s H E).nox (defBody s_law_loose) t ∧ t { nx := fun _ H' => Q .non H', rt := Q } (L2.start N_law_loose vs) H) :
    ∃ fd, FnOk P w K mg base L2.CX0 (k + 1) (He.fAd K d_law_loose.at_) fd ["node", "words"] sp ∧ PySem.W.keepIn K (.ref (He.fAd K d_law_loose.at_)) = true ∧ Binds K fd ["node", "words"] [] :=
  LB.fnok_mk T (d := d_law_loose) 31 rfl rfl rfl sc_law_loose (fun _ _ _ _ _ _ us hl => match us, hl with | [_, _], _ => rfl) len hbody
abbrev N_law_added : List Str := ["node", "words", "leaf"]
theorem sc_law_added : FnScope N_law_added ["node", "words", "leaf"] (defScope s_law_added) := ⟨rfl, rfl, rfl, by decide +kernel, rfl, by decide +kernel, by decide +kernel⟩
theorem fn_law_added (T : Tx K mg base) {k : Nat} {sp : Sp} (len : ∀ vs H Q E, sp vs H Q E → vs.length = 3)
    (hbody : ∀ (A : Around) (outer : List Env) (s : Shared) (H : Hp) (vs : List V) (Q : VK) (E : XK), Room k (A.deeper (envOfC "_law_added" (defScope s_law_added) s.heap.objs.size (He.fAd K d_law_added.at_) (.ref (He.cT K d_law_added.at_).1))) → sp vs H Q E →
      ∃ t, PSs (cxOf L2.CX0 P w K mg base N_law_added "_law_added" (defScope s_law_added) (He.fAd K d_law_added.at_) (.ref (He.cT K d_law_added.at_).1) A outer s H E).nox (defBody s_law_added) t ∧ t { nx := fun _ H' => Q .non H', rt := Q } (L2.start N_law_added vs) H) :
    ∃ fd, FnOk P w K mg base L2.CX0 (k + 1) (He.fAd K d_law_added.at_) fd ["node", "words", "leaf"] sp ∧ PySem.W.keepIn K (.ref (He.fAd K d_law_added.at_)) = true ∧ Binds K fd ["node", "words", "leaf"] [] :=
  LB.fnok_mk T (d := d_law_added) 32 rfl rfl rfl sc_law_added (fun _ _ _ _ _ _ us hl => match us, hl with | [_, _, _], _ => rfl) len hbody
abbrev N_law_inside : List Str := ["node", "words", "sort", "leaf", "k", "part", "found"]
theorem sc_law_inside : FnScope N_law_inside ["node", "words", "sort", "leaf"] (defScope s_law_inside) := ⟨rfl, rfl, rfl, by decide +kernel, rfl, by decide +kernel, by decide +kernel⟩
theorem fn_law_inside (T : Tx K mg base) {k : Nat} {sp : Sp} (len : ∀ vs H Q E, sp vs H Q E → vs.length = 4)
    (hbody : ∀ (A : Around) (outer : List Env) (s : Shared) (H : Hp) (vs : List V) (Q : VK) (E : XK), Room k (A.deeper (envOfC "_law_inside" (defScope s_law_inside) s.heap.objs.size (He.fAd K d_law_inside.at_) (.ref (He.cT K d_law_inside.at_).1))) → sp vs H Q E →
      ∃ t, PSs (cxOf L2.CX0 P w K mg base N_law_inside "_law_inside" (defScope s_law_inside) (He.fAd K d_law_inside.at_) (.ref (He.cT K d_law_inside.at_).1) A outer s H E).nox (defBody s_law_inside) t ∧ t { nx := fun _ H' => Q .non H', rt := Q } (L2.start N_law_inside vs) H) :
    ∃ fd, FnOk P w K mg base L2.CX0 (k + 1) (He.fAd K d_law_inside.at_) fd ["node", "words", "sort", "leaf"] sp ∧ PySem.W.keepIn K (.ref (He.fAd K d_law_inside.at_)) = true ∧ Binds K fd ["node", "words", "sort", "leaf"] [] :=
  LB.fnok_mk T (d := d_law_inside) 33 rfl rfl rfl sc_law_inside (fun _ _ _ _ _ _ us hl => match us, hl with | [_, _, _, _], _ => rfl) len hbody
abbrev N_law_match : List Str := ["one", "two", "left", "part", "found", "k"]
theorem sc_law_match : FnScope N_law_match ["one", "two"] (defScope s_law_match) := ⟨rfl, rfl, rfl, by decide +kernel, rfl, by decide +kernel, by decide +kernel⟩
theorem fn_law_match (T : Tx K mg base) {k : Nat} {sp : Sp} (len : ∀ vs H Q E, sp vs H Q E → vs.length = 2)
    (hbody : ∀ (A : Around) (outer : List Env) (s : Shared) (H : Hp) (vs : List V) (Q : VK) (E : XK), Room k (A.deeper (envOfC "_law_match" (defScope s_law_match) s.heap.objs.size (He.fAd K d_law_match.at_) (.ref (He.cT K d_law_match.at_).1))) → sp vs H Q E →
      ∃ t, PSs (cxOf L2.CX0 P w K mg base N_law_match "_law_match" (defScope s_law_match) (He.fAd K d_law_match.at_) (.ref (He.cT K d_law_match.at_).1) A outer s H E).nox (defBody s_law_match) t ∧ t { nx := fun _ H' => Q .non H', rt := Q } (L2.start N_law_match vs) H) :
    ∃ fd, FnOk P w K mg base L2.CX0 (k + 1) (He.fAd K d_law_match.at_) fd ["one", "two"] sp ∧ PySem.W.keepIn K (.ref (He.fAd K d_law_match.at_)) = true ∧ Binds K fd ["one", "two"] [] :=
  LB.fnok_mk T (d := d_law_match) 34 rfl rfl rfl sc_law_match (fun _ _ _ _ _ _ us hl => match us, hl with | [_, _], _ => rfl) len hbody
abbrev N_law_book : List Str := ["bag", "words", "fresh", "book", "k"]
theorem sc_law_book : FnScope N_law_book ["bag", "words"] (defScope s_law_book) := ⟨rfl, rfl, rfl, by decide +kernel, rfl, by decide +kernel, by decide +kernel⟩
theorem fn_law_book (T : Tx K mg base) {k : Nat} {sp : Sp} (len : ∀ vs H Q E, sp vs H Q E → vs.length = 2)
    (hbody : ∀ (A : Around) (outer : List Env) (s : Shared) (H : Hp) (vs : List V) (Q : VK) (E : XK), Room k (A.deeper (envOfC "_law_book" (defScope s_law_book) s.heap.objs.size (He.fAd K d_law_book.at_) (.ref (He.cT K d_law_book.at_).1))) → sp vs H Q E →
      ∃ t, PSs (cxOf L2.CX0 P w K mg base N_law_book "_law_book" (defScope s_law_book) (He.fAd K d_law_book.at_) (.ref (He.cT K d_law_book.at_).1) A outer s H E).nox (defBody s_law_book) t ∧ t { nx := fun _ H' => Q .non H', rt := Q } (L2.start N_law_book vs) H) :
    ∃ fd, FnOk P w K mg base L2.CX0 (k + 1) (He.fAd K d_law_book.at_) fd ["bag", "words"] sp ∧ PySem.W.keepIn K (.ref (He.fAd K d_law_book.at_)) = true ∧ Binds K fd ["bag", "words"] [] :=
  LB.fnok_mk T (d := d_law_book) 35 rfl rfl rfl sc_law_book (fun _ _ _ _ _ _ us hl => match us, hl with | [_, _], _ => rfl) len hbody
abbrev N_law_moved : List Str := ["bag", "tree", "word", "leaf", "rest", "name"]
theorem sc_law_moved : FnScope N_law_moved ["bag", "tree"] (defScope s_law_moved) := ⟨rfl, rfl, rfl, by decide +kernel, rfl, by decide +kernel, by decide +kernel⟩
theorem fn_law_moved (T : Tx K mg base) {k : Nat} {sp : Sp} (len : ∀ vs H Q E, sp vs H Q E → vs.length = 2)
    (hbody : ∀ (A : Around) (outer : List Env) (s : Shared) (H : Hp) (vs : List V) (Q : VK) (E : XK), Room k (A.deeper (envOfC "_law_moved" (defScope s_law_moved) s.heap.objs.size (He.fAd K d_law_moved.at_) (.ref (He.cT K d_law_moved.at_).1))) → sp vs H Q E →
      ∃ t, PSs (cxOf L2.CX0 P w K mg base N_law_moved "_law_moved" (defScope s_law_moved) (He.fAd K d_law_moved.at_) (.ref (He.cT K d_law_moved.at_).1) A outer s H E).nox (defBody s_law_moved) t ∧ t { nx := fun _ H' => Q .non H', rt := Q } (L2.start N_law_moved vs) H) :
    ∃ fd, FnOk P w K mg base L2.CX0 (k + 1) (He.fAd K d_law_moved.at_) fd ["bag", "tree"] sp ∧ PySem.W.keepIn K (.ref (He.fAd K d_law_moved.at_)) = true ∧ Binds K fd ["bag", "tree"] [] :=
  LB.fnok_mk T (d := d_law_moved) 36 rfl rfl rfl sc_law_moved (fun _ _ _ _ _ _ us hl => match us, hl with | [_, _], _ => rfl) len hbody
abbrev N_law_change : List Str := ["bag", "tree", "words", "pick", "found", "book", "word", "one", "two", "node", "heap"]
theorem sc_law_change : FnScope N_law_change ["bag", "tree"] (defScope s_law_change) := ⟨rfl, rfl, rfl, by decide +kernel, rfl, by decide +kernel, by decide +kernel⟩
theorem fn_law_change (T : Tx K mg base) {k : Nat} {sp : Sp} (len : ∀ vs H Q E, sp vs H Q E → vs.length = 2)
    (hbody : ∀ (A : Around) (outer : List Env) (s : Shared) (H : Hp) (vs : List V) (Q : VK) (E : XK), Room k (A.deeper (envOfC "_law_change" (defScope s_law_change) s.heap.objs.size (He.fAd K d_law_change.at_) (.ref (He.cT K d_law_change.at_).1))) → sp vs H Q E →
      ∃ t, PSs (cxOf L2.CX0 P w K mg base N_law_change "_law_change" (defScope s_law_change) (He.fAd K d_law_change.at_) (.ref (He.cT K d_law_change.at_).1) A outer s H E).nox (defBody s_law_change) t ∧ t { nx := fun _ H' => Q .non H', rt := Q } (L2.start N_law_change vs) H) :
    ∃ fd, FnOk P w K mg base L2.CX0 (k + 1) (He.fAd K d_law_change.at_) fd ["bag", "tree"] sp ∧ PySem.W.keepIn K (.ref (He.fAd K d_law_change.at_)) = true ∧ Binds K fd ["bag", "tree"] [] :=
  LB.fnok_mk T (d := d_law_change) 37 rfl rfl rfl sc_law_change (fun _ _ _ _ _ _ us hl => match us, hl with | [_, _], _ => rfl) len hbody
abbrev N_law : List Str := ["script", "bag", "tree", "like", "near", "far", "trees", "frames", "node", "page", "j", "told", "again", "k"]
theorem sc_law : FnScope N_law ["script"] (defScope s_law) := ⟨rfl, rfl, rfl, by decide +kernel, rfl, by decide +kernel, by decide +kernel⟩
theorem fn_law (T : Tx K mg base) {k : Nat} {sp : Sp} (len : ∀ vs H Q E, sp vs H Q E → vs.length = 1)
    (hbody : ∀ (A : Around) (outer : List Env) (s : Shared) (H : Hp) (vs : List V) (Q : VK) (E : XK), Room k (A.deeper (envOfC "law" (defScope s_law) s.heap.objs.size (He.fAd K d_law.at_) (.ref (He.cT K d_law.at_).1))) → sp vs H Q E →
      ∃ t, PSs (cxOf L2.CX0 P w K mg base N_law "law" (defScope s_law) (He.fAd K d_law.at_) (.ref (He.cT K d_law.at_).1) A outer s H E).nox (defBody s_law) t ∧ t { nx := fun _ H' => Q .non H', rt := Q } (L2.start N_law vs) H) :
    ∃ fd, FnOk P w K mg base L2.CX0 (k + 1) (He.fAd K d_law.at_) fd ["script"] sp ∧ PySem.W.keepIn K (.ref (He.fAd K d_law.at_)) = true ∧ Binds K fd ["script"] [] :=
  LB.fnok_mk T (d := d_law) 38 rfl rfl rfl sc_law (fun _ _ _ _ _ _ us hl => match us, hl with | [_], _ => rfl) len hbody
abbrev N_Node_init : List Str := ["self", "word", "inner", "part", "name"]
theorem sc_Node_init : FnScope N_Node_init ["self", "word", "inner"] (defScope s_Node_init) := ⟨rfl, rfl, rfl, by decide +kernel, rfl, by decide +kernel, by decide +kernel⟩
theorem fn_Node_init (T : Tx K mg base) {k : Nat} {sp : Sp} (len : ∀ vs H Q E, sp vs H Q E → vs.length = 3)
    (hbody : ∀ (A : Around) (outer : List Env) (s : Shared) (H : Hp) (vs : List V) (Q : VK) (E : XK), Room k (A.deeper (envOfC "Node.__init__" (defScope s_Node_init) s.heap.objs.size (He.fAd K d_Node_init.at_) (.ref (He.cT K d_Node_init.at_).1))) → sp vs H Q E →
      ∃ t, PSs (cxOf L2.CX0 P w K mg base N_Node_init "Node.__init__" (defScope s_Node_init) (He.fAd K d_Node_init.at_) (.ref (He.cT K d_Node_init.at_).1) A outer s H E).nox (defBody s_Node_init) t ∧ t { nx := fun _ H' => Q .non H', rt := Q } (L2.start N_Node_init vs) H) :
    ∃ fd, FnOk P w K mg base L2.CX0 (k + 1) (He.fAd K d_Node_init.at_) fd ["self", "word", "inner"] sp ∧ PySem.W.keepIn K (.ref (He.fAd K d_Node_init.at_)) = true ∧ Binds K fd ["self", "word", "inner"] [] :=
  LB.fnok_mk T (d := d_Node_init) 39 rfl rfl rfl sc_Node_init (fun _ _ _ _ _ _ us hl => match us, hl with | [_, _, _], _ => rfl) len hbody
abbrev N_Shape_init : List Str := ["self", "text"]
theorem sc_Shape_init : FnScope N_Shape_init ["self", "text"] (defScope s_Shape_init) := ⟨rfl, rfl, rfl, by decide +kernel, rfl, by decide +kernel, by decide +kernel⟩
theorem fn_Shape_init (T : Tx K mg base) {k : Nat} {sp : Sp} (len : ∀ vs H Q E, sp vs H Q E → vs.length = 2)
    (hbody : ∀ (A : Around) (outer : List Env) (s : Shared) (H : Hp) (vs : List V) (Q : VK) (E : XK), Room k (A.deeper (envOfC "Shape.__init__" (defScope s_Shape_init) s.heap.objs.size (He.fAd K d_Shape_init.at_) (.ref (He.cT K d_Shape_init.at_).1))) → sp vs H Q E →
      ∃ t, PSs (cxOf L2.CX0 P w K mg base N_Shape_init "Shape.__init__" (defScope s_Shape_init) (He.fAd K d_Shape_init.at_) (.ref (He.cT K d_Shape_init.at_).1) A outer s H E).nox (defBody s_Shape_init) t ∧ t { nx := fun _ H' => Q .non H', rt := Q } (L2.start N_Shape_init vs) H) :
    ∃ fd, FnOk P w K mg base L2.CX0 (k + 1) (He.fAd K d_Shape_init.at_) fd ["self", "text"] sp ∧ PySem.W.keepIn K (.ref (He.fAd K d_Shape_init.at_)) = true ∧ Binds K fd ["self", "text"] [] :=
  LB.fnok_mk T (d := d_Shape_init) 40 rfl rfl rfl sc_Shape_init (fun _ _ _ _ _ _ us hl => match us, hl with | [_, _], _ => rfl) len hbody
abbrev N_Shape_eq : List Str := ["self", "other"]
theorem sc_Shape_eq : FnScope N_Shape_eq ["self", "other"] (defScope s_Shape_eq) := ⟨rfl, rfl, rfl, by decide +kernel, rfl, by decide +kernel, by decide +kernel⟩
theorem fn_Shape_eq (T : Tx K mg base) {k : Nat} {sp : Sp} (len : ∀ vs H Q E, sp vs H Q E → vs.length = 2)
    (hbody : ∀ (A : Around) (outer : List Env) (s : Shared) (H : Hp) (vs : List V) (Q : VK) (E : XK), Room k (A.deeper (envOfC "Shape.__eq__" (defScope s_Shape_eq) s.heap.objs.size (He.fAd K d_Shape_eq.at_) (.ref (He.cT K d_Shape_eq.at_).1))) → sp vs H Q E →
      ∃ t, PSs (cxOf L2.CX0 P w K mg base N_Shape_eq "Shape.__eq__" (defScope s_Shape_eq) (He.fAd K d_Shape_eq.at_) (.ref (He.cT K d_Shape_eq.at_).1) A outer s H E).nox (defBody s_Shape_eq) t ∧ t { nx := fun _ H' => Q .non H', rt := Q } (L2.start N_Shape_eq vs) H) :
    ∃ fd, FnOk P w K mg base L2.CX0 (k + 1) (He.fAd K d_Shape_eq.at_) fd ["self", "other"] sp ∧ PySem.W.keepIn K (.ref (He.fAd K d_Shape_eq.at_)) = true ∧ Binds K fd ["self", "other"] [] :=
  LB.fnok_mk T (d := d_Shape_eq) 41 rfl rfl rfl sc_Shape_eq (fun _ _ _ _ _ _ us hl => match us, hl with | [_, _], _ => rfl) len hbody
end
end K3

namespace K3
open PySem PySem.Spec PyProof.Rows L2 LamX LK LB
abbrev TB (K : PySem.W.Frag) : TBs := lamT K tf
section
variable {P : Program} {w : World} {K : PySem.W.Frag} {mg : Str → Option Value} {base : Heap}

def spUnder (Tb : TBs) (n : Nat) : Sp := fun vs H Q _ => ∃ (v : V) (t : Tr), vs = [v] ∧ RT H v t ∧ t.hgt < n ∧ t.good ∧ t.lv < 64 ∧
  ∀ p H', Nw H p → Stp Tb [] H H' → H' p = some (.lst (t.under.map V.str)) → Q (.ref p) H'

theorem cal_under (T : Tx K mg base) : ∀ n, Cal P w K mg base (n + 1) "_law_under" (spUnder (TB K) n)
  | 0 => cal_mk (fn_law_under T (fun vs H Q E ⟨v, t, e, _⟩ => by rw [e]; rfl) fun A outer s H vs Q E hr ⟨v, t, e, _, h, _⟩ => absurd h (Nat.not_lt_zero _)) (g_law_under T)
  | n + 1 => cal_mk (fn_law_under T (fun vs H Q E ⟨v, t, e, _⟩ => by rw [e]; rfl) fun A outer s H vs Q E hr h => by
    obtain ⟨v, t, rfl, hR, hh, hg, hl, k⟩ := h
    have c_law_under : Cal P w K mg base (n + 1) "_law_under" (spUnder (TB K) n) := cal_under T n
    refine ⟨_, (pss_cons (ps_if (pt_cmpR op_ne (pe_ix ix_tup (pv 0) pe_int (fun _ _ => rfl)) pe_str (nomark _)) (pss_one (ps_ret (pe_lst (pa_cons (pe_ix ix_tup (pv 0) pe_int (fun _ _ => rfl)) pa_nil)))) pss_nil)
  (pss_cons (ps_set (i := 1) sc_law_under.nd rfl (Or.inl rfl) (pe_lst pa_nil))
  (pss_cons (ps_for PassesOwn.never rfl (pi_tup (pe_ix ix_tup (pv 0) pe_int (fun _ _ => rfl))) (pg_name (i := 2) sc_law_under.nd rfl (Or.inl rfl)) (pss_one (ps_set (i := 1) sc_law_under.nd rfl (Or.inl rfl) (pe_op op_cat (pv 1) (pe_c c_law_under hr (by omega) rfl (pa_cons (pv 2) pa_nil))))))
  (pss_one (ps_ret (pe_callB cr_sortedS (by rfl) (n_sorted T) (by decide +kernel) (pa_cons (pv 1) pa_nil))))))), ?_⟩
    cases hR with
    | @leaf a nm fr ha =>
      have hne : (decide (V.str nm = V.str "")) = false := decide_eq_false (fun e => isNm_ne hg (by injection e))
      refine ⟨_, rfl, a, _, 0, .str nm, rfl, rfl, SqT.of ha, rfl, rfl, _, rfl, ?_⟩
      rw [hne]
      refine iteT ?_
      refine ⟨_, rfl, a, _, 0, .str nm, rfl, rfl, SqT.of ha, rfl, (by show 1 ≤ sizeLine; decide), fun p hp => ?_⟩
      exact k p _ (.of hp) (.new hp) upd_same
    | @grp a q ws ps ha hq hps =>
      refine ⟨_, rfl, a, _, 0, .str "", rfl, rfl, SqT.of ha, rfl, rfl, _, rfl, ?_⟩
      refine iteF ?_
      refine ⟨Nat.zero_le _, fun l0 hl0 => ?_⟩
      have e0 : Stp (TB K) [] H (upd H l0 (.lst [])) := .new hl0
      refine ⟨_, rfl, a, _, 1, .ref q, rfl, rfl, SqT.of (e0.get0 ha trivial), rfl, q, rfl, ⟨ws, SqT.of (e0.get0 hq trivial)⟩,
        for_tup (xs := ws) (fun i σ H' => ∃ (l : Addr) (pv0 : Option V), σ = [some (.ref a), some (.ref l), pv0] ∧ Stp (TB K) [] H H' ∧ Nw H l ∧ H' l = some (.lst ((underL (ps.take i)).map V.str)))
          ⟨l0, none, rfl, e0, .of hl0, upd_same⟩ (fun i σ H' _ ⟨_, _, _, e, _⟩ => SqT.of (e.get0 hq trivial)) ?_ ?_⟩
      · rintro i x σ H1 hx ⟨l, pv0, rfl, e1, nl, h1⟩
        obtain ⟨t, ht, rt⟩ := hps.get hx
        have hm : t ∈ ps := List.mem_of_getElem? ht
        refine ⟨_, rfl, _, rfl, x, t, rfl, rt.tup (e1.tup lsts_nil), ?_, ?_, ?_, fun p H2 np e2 h2 => ?_⟩
        · have := hgtL_mem hm
          have h3 : 1 + hgtL ps < n + 1 := hh
          omega
        · exact goodL_mem.mp hg.2 t hm
        · have := lvL_mem hm
          have h3 : lvL ps < 64 := hl
          omega
        · refine ⟨l, p, _, _, rfl, rfl, e2.get0 h1 trivial, h2, ?_, fun p2 hp2 => ?_⟩
          · rw [List.length_map, List.length_map, ← List.length_append, ← underL_snoc ht, underL_len]
            exact Nat.le_trans (lvL_take ps _) (Nat.le_trans (Nat.le_of_lt hl) (by decide))
          · have e3 := e1.trans e2
            refine ⟨p2, _, rfl, e3.alloc hp2, (Nw.of hp2).back e3, ?_⟩
            rw [upd_same, underL_snoc ht, List.map_append]
      · rintro σ H1 ⟨l, pv0, rfl, e1, nl, h1⟩
        rw [hps.length, List.take_length] at h1
        refine ⟨_, rfl, l, _, rfl, SqL.of h1, ?_, fun ys p hp1 hp2 hp3 => ?_⟩
        · rw [underL_len]
          exact hl
        · have ey : ys = (Tr.grp ps).under := sortS_of hp1 (sortedS_pw hp2)
          exact k p _ ((Nw.of hp3).back e1) (e1.alloc hp3) (by rw [upd_same, ey])) (g_law_under T)
end
end K3

namespace K3
open PySem PySem.Spec PyProof.Rows L2 LamX LK LB
section
variable {P : Program} {w : World} {K : PySem.W.Frag} {mg : Str → Option Value} {base : Heap}
/-- a list of trees with sum of leaves below 64 -/
structure Nodes (H : Hp) (v : V) (ts : List Tr) : Prop where
  ex : ∃ l vs, v = .ref l ∧ H l = some (.lst vs) ∧ RTs H vs ts
def spGroup (Tb : TBs) : Sp := fun vs H Q _ => ∃ (v : V) (ts : List Tr), vs = [v] ∧ Nodes H v ts ∧ hgtL ts < 63 ∧ goodL ts ∧ lvL ts < 64 ∧ Tabs Tb H ∧
  ∀ v' H', RT H' v' (group ts) → Stp Tb [] H H' → Q v' H'
def tKey (K : PySem.W.Frag) : TE := tOp (rIxL K) (tCall (spUnder (TB K) 63) [] L2.E0 (tCons (tVar 0) tNil)) (tC (.int 0))
theorem cal_group (T : Tx K mg base) : Cal P w K mg base 69 "_law_group" (spGroup (TB K)) :=
  cal_mk (fn_law_group T (k := 68) (fun vs H Q E ⟨v, t, e, _⟩ => by rw [e]; rfl) fun A outer s H vs Q E hr h => by
    obtain ⟨v, ts, rfl, ⟨l, ws, rfl, hl, hR⟩, hh, hg, hlv, hT, k⟩ := h
    have c_law_under : Cal P w K mg base 64 "_law_under" (spUnder (TB K) 63) := cal_under T 63
    refine ⟨_, (pss_one (ps_ret (pe_tup (pa_cons pe_str (pa_cons (pe_callTy call_tuple_of (by rfl) (n_tuple T) (by decide +kernel) (pa_cons (pe_sortedLam (T := TB K) (a0 := "node") (Nl := ["node"]) (k := 64) (tb := tKey K) (by rfl) (n_sorted T) (pa_cons (pv 0) pa_nil) (T.tb _ (List.mem_of_getElem? (i := 0) rfl)) rfl (lamT_mem (i := 0) rfl) (lamT_one T.nd (i := 0) rfl) (hr.mono (by decide))
      ⟨rfl, rfl, rfl, by decide +kernel, rfl, by decide +kernel, by decide +kernel⟩
      (fun A' outer' s' H' f' c' hr' => pe_ix ix_list (pe_c c_law_under hr' (by omega) rfl (pa_cons (pv 0) pa_nil)) pe_int (fun _ _ => rfl))) pa_nil)) pa_nil))))), ?_⟩
    obtain ⟨bs, rfl, rfl, hb⟩ := rts_zip hR
    refine ⟨_, rfl, sortL_str (f := fun b : V × Tr => b.2.key) (val := fun b : V × Tr => b.1) (SqL.of hl) hT ?_ ?_⟩
    · intro b m H2 H3 e2 e3
      have hm : b.2 ∈ bs.map (·.2) := List.mem_map.mpr ⟨b, m, rfl⟩
      refine ⟨_, rfl, b.1, b.2, rfl, (hb b m).tup ((e2.trans e3).tup lsts_nil), ?_, goodL_mem.mp hg _ hm, ?_, fun p H' np e hp => ?_⟩
      · have := hgtL_mem hm
        omega
      · have := lvL_mem hm
        omega
      · exact ⟨p, _, 0, .str b.2.key, rfl, rfl, SqL.of hp, key_at (goodL_mem.mp hg _ hm), .inl rfl, e3.trans e⟩
    · intro H3 e3 p hp
      refine ⟨p, _, rfl, .inl ⟨SqL.of upd_same, fun q hq => ⟨(by decide : 2 ≤ sizeLine), fun a ha => ?_⟩⟩⟩
      have e4 := ((e3.alloc (o := .lst ((bs.mergeSort fun a b => leS a.2.key b.2.key).map (·.1))) hp).alloc (o := .tup ((bs.mergeSort fun a b => leS a.2.key b.2.key).map (·.1))) hq).alloc (o := .tup [.str "", .ref q]) ha
      refine k _ _ (group_rt (q := q) upd_same ?_ fun b m => (hb b m).tup (e4.tup lsts_nil)) e4
      rw [upd_ne (ne_of_none upd_same ha)]
      exact upd_same) (g_law_group T)
end
end K3

namespace K3
open PySem PySem.Spec PyProof.Rows L2 LamX LK LB
section
variable {P : Program} {w : World} {K : PySem.W.Frag} {mg : Str → Option Value} {base : Heap}
/-- a def of one tree below height n: its result told by G -/
def spOne (Tb : TBs) (n : Nat) (G : Tr → Hp → Hp → V → Prop) : Sp := fun vs H Q _ => ∃ (v : V) (t : Tr), vs = [v] ∧ RT H v t ∧ t.hgt < n ∧ t.good ∧ t.lv < 64 ∧ ∀ v' H', Stp Tb [] H H' → G t H H' v' → Q v' H'
theorem no_hgt {t : Tr} (h : t.hgt < 0) : False := absurd h (Nat.not_lt_zero _)
structure Sub (ps : List Tr) (t : Tr) (n : Nat) : Prop where
  hgt : t.hgt < n
  good : t.good
  lv : t.lv < 64
theorem sub_of {ps : List Tr} {t : Tr} {n : Nat} (hm : t ∈ ps) (hh : (Tr.grp ps).hgt < n + 1) (hg : (Tr.grp ps).good) (hl : (Tr.grp ps).lv < 64) : Sub ps t n := by
  have h3 : 1 + hgtL ps < n + 1 := hh
  have h4 : lvL ps < 64 := hl
  have := hgtL_mem hm
  have := lvL_mem hm
  exact ⟨by omega, goodL_mem.mp hg.2 t hm, by omega⟩
theorem few {ps : List Tr} (hg : (Tr.grp ps).good) (hl : (Tr.grp ps).lv < 64) : ps.length < 64 := by
  have := len_lv hg.2
  have h4 : lvL ps < 64 := hl
  omega

abbrev gText : Tr → Hp → Hp → V → Prop := fun t _ _ v => v = .str t.text
theorem cal_text (T : Tx K mg base) : ∀ n, Cal P w K mg base (n + 1) "_law_text" (spOne (TB K) n gText)
  | 0 => cal_mk (fn_law_text T (fun vs H Q E ⟨v, t, e, _⟩ => by rw [e]; rfl) fun A outer s H vs Q E hr ⟨v, t, e, _, h, _⟩ => absurd h (Nat.not_lt_zero _)) (g_law_text T)
  | n + 1 => cal_mk (fn_law_text T (fun vs H Q E ⟨v, t, e, _⟩ => by rw [e]; rfl) fun A outer s H vs Q E hr h => by
    obtain ⟨v, t, rfl, hR, hh, hg, hl, k⟩ := h
    have c_law_text : Cal P w K mg base (n + 1) "_law_text" (spOne (TB K) n gText) := cal_text T n
    refine ⟨_, (pss_cons (ps_if (pt_cmpR op_ne (pe_ix ix_tup (pv 0) pe_int (fun _ _ => rfl)) pe_str (nomark _)) (pss_one (ps_ret (pe_ifExp (pt_val (pe_ix ix_tup (pv 0) pe_int (fun _ _ => rfl))) (pe_ix ix_tup (pv 0) pe_int (fun _ _ => rfl)) (pe_op op_add_str (pe_ix ix_tup (pv 0) pe_int (fun _ _ => rfl)) pe_str)))) pss_nil)
  (pss_one (ps_ret (pe_op op_add_str (pe_op op_add_str pe_str (pe_join pe_str (pe_lc (own := [("part", 1)]) (g := gName 1) (tt := tYes) rfl sc_law_text.nd (pi_tup (pe_ix ix_tup (pv 0) pe_int (fun _ _ => rfl))) (blkOk_by (own := [("part", 1)]) (N := N_law_text) (sc := defScope s_law_text) (by decide +kernel)) (fun _ _ _ _ _ => (pg_name (i := 1) sc_law_text.nd rfl (Or.inl rfl))) (fun _ _ _ _ _ => pts_nil) (fun _ _ _ _ _ => (pe_c c_law_text hr (by omega) rfl (pa_cons (pv 1) pa_nil)))))) pe_str)))), ?_⟩
    cases hR with
    | @leaf a nm fr ha =>
      have hne : (decide (V.str nm = V.str "")) = false := decide_eq_false (fun e => isNm_ne hg (by injection e))
      have h8 := (isNm_len hg).2
      refine ⟨_, rfl, a, _, 0, .str nm, rfl, rfl, SqT.of ha, rfl, rfl, _, rfl, ?_⟩
      rw [hne]
      refine iteT ?_
      refine ⟨_, rfl, a, _, 1, .bl fr, rfl, rfl, SqT.of ha, rfl, fr, rfl, ?_⟩
      cases fr with
      | false =>
        refine iteF ?_
        refine ⟨_, rfl, a, _, 0, .str nm, rfl, rfl, SqT.of ha, rfl, nm, "|", rfl, rfl, ?_, k _ _ .refl rfl⟩
        exact Nat.le_trans (Nat.add_le_add_right h8 _) (by decide)
      | true =>
        refine iteT ?_
        exact ⟨_, rfl, a, _, 0, .str nm, rfl, rfl, SqT.of ha, rfl, k _ _ .refl rfl⟩
    | @grp a q ws ps ha hq hps =>
      refine ⟨_, rfl, a, _, 0, .str "", rfl, rfl, SqT.of ha, rfl, rfl, _, rfl, ?_⟩
      refine iteF ?_
      have hs := textL_len hg.2
      have hf := few hg hl
      have hl2 : lvL ps < 64 := hl
      refine ⟨⟨" ", rfl⟩, _, rfl, a, _, 1, .ref q, rfl, rfl, SqT.of ha, rfl, q, rfl, ⟨ws, SqT.of hq⟩, fun D hD => lc_tupY (T := TB K) .refl hD hq (by rw [hps.length]; exact Nat.le_trans (Nat.le_of_lt hf) (by decide)) (fun i _ acc => acc = (ps.take i).map fun t => V.str t.text) (fun _ => rfl) (fun _ _ _ _ _ h => h) ?_ ?_⟩
      · intro i x H2 Nx hx e2 kk
        obtain ⟨t, ht, rt⟩ := hps.get hx
        have S := sub_of (List.mem_of_getElem? ht) hh hg hl
        refine ⟨rfl, _, rfl, x, t, rfl, rt.tup (e2.tup lsts_nil), S.hgt, S.good, S.lv, fun v' H' e3 g => kk _ _ e3 fun acc _ h => ?_⟩
        rw [h, g, take_snoc ht, List.map_append]
        rfl
      · intro H' ys e2 hD2 hy
        have e5 : ys = (textL ps).map V.str := by
          rw [hy, hps.length, List.take_length, textL_map, List.map_map]
          rfl
        subst e5
        have hn : (textL ps).length = ps.length := by rw [textL_map, List.length_map]
        have hJ := lenJ " " (textL ps)
        have z1 : (" " : Str).length = 1 := by decide
        have z2 : ("( " : Str).length = 2 := by decide
        have z3 : (" )" : Str).length = 2 := by decide
        have z4 : sizeLine = 16777216 := by decide
        rw [hn, z1] at hJ
        refine ⟨" ", D, textL ps, rfl, rfl, .inl (SqL.of hD2), ?_, "( ", _, rfl, rfl, ?_, _, " )", rfl, rfl, ?_, k _ _ e2 rfl⟩
        · rw [hn, z1]; omega
        · omega
        · rw [lenA]; omega) (g_law_text T)
end
end K3

namespace K3
open PySem PySem.Spec PyProof.Rows L2 LamX LK LB
section
variable {P : Program} {w : World} {K : PySem.W.Frag} {mg : Str → Option Value} {base : Heap}
def rLenT : List V → Hp → VK → Prop := fun xs H Q => ∃ z, xs = [.str z] ∧ z.length ≤ sizeLine ∧ Q (.int z.length) H
def tKeyF : TE := tTup (tCons (tUn (rU fun i => .int (-i)) (tCB rLenT (tCons (tVar 0) tNil))) (tCons (tVar 0) tNil))
theorem sortL_form {T : TBs} {q : Str} {Q : VK} {H1 : Hp} {l : Addr} {ws : List Str} {nm : Str} (hl : H1 l = some (.lst (ws.map V.str))) (ht : Tabs T H1) (hb : ∀ z ∈ ws, z.length ≤ sizeLine)
    (fin : ∀ H3, Stp T [] H1 H3 → ∀ p, H3 p = none → Q (.ref p) (upd H3 p (.lst ((sortF ws).map V.str)))) : SortG K T q [nm] tKeyF Q (.ref l) H1 :=
  sortL_pure (bs := ws) (val := V.str) (key := keyF) (SqL.of hl) ht (PySem.W.AllAlike.of fun b b' => rfl) (PySem.W.Sortable.tuples fun b => ⟨_, _, rfl⟩) (fun b _ => by simp [keyF, PyData.depth, PyData.depthAll])
    (fun b hbm H2 H3 e2 e3 => ⟨_, rfl, b, rfl, hb b hbm, _, rfl, _, rfl, (by decide : 2 ≤ sizeLine), fun p hp => ⟨.inr ⟨p, _, [.int (-(b.length : Int)), .str b], rfl, upd_same, rfl, rfl⟩, e3.alloc hp⟩⟩)
    (by
      intro H3 e p hp
      rw [dataLe_F]
      exact fin H3 e p hp)
abbrev gForm : Tr → Hp → Hp → V → Prop := fun t _ _ v => v = .str t.form
def spOneT (Tb : TBs) (n : Nat) (G : Tr → Hp → Hp → V → Prop) : Sp := fun vs H Q _ => ∃ (v : V) (t : Tr), vs = [v] ∧ RT H v t ∧ t.hgt < n ∧ t.good ∧ t.lv < 64 ∧ Tabs Tb H ∧ ∀ v' H', Stp Tb [] H H' → G t H H' v' → Q v' H'
theorem cal_form (T : Tx K mg base) : ∀ n, Cal P w K mg base (n + 10) "_law_form" (spOneT (TB K) n gForm)
  | 0 => cal_mk (fn_law_form T (fun vs H Q E ⟨v, t, e, _⟩ => by rw [e]; rfl) fun A outer s H vs Q E hr ⟨v, t, e, _, h, _⟩ => absurd h (Nat.not_lt_zero _)) (g_law_form T)
  | n + 1 => cal_mk (fn_law_form T (k := n + 10) (fun vs H Q E ⟨v, t, e, _⟩ => by rw [e]; rfl) fun A outer s H vs Q E hr h => by
    obtain ⟨v, t, rfl, hR, hh, hg, hl, hT, k⟩ := h
    have c_law_form : Cal P w K mg base (n + 10) "_law_form" (spOneT (TB K) n gForm) := cal_form T n
    refine ⟨_, (pss_cons (ps_if (pt_cmpR op_ne (pe_ix ix_tup (pv 0) pe_int (fun _ _ => rfl)) pe_str (nomark _)) (pss_one (ps_ret (pe_ifExp (pt_val (pe_ix ix_tup (pv 0) pe_int (fun _ _ => rfl))) pe_str pe_str))) pss_nil)
  (pss_one (ps_ret (pe_op op_add_str (pe_op op_add_str pe_str (pe_join pe_str (pe_sortedLam (T := TB K) (a0 := "one") (Nl := ["one"]) (k := 4) (tb := tKeyF) (by rfl) (n_sorted T) (pa_cons (pe_lc (own := [("part", 1)]) (g := gName 1) (tt := tYes) rfl sc_law_form.nd (pi_tup (pe_ix ix_tup (pv 0) pe_int (fun _ _ => rfl))) (blkOk_by (own := [("part", 1)]) (N := N_law_form) (sc := defScope s_law_form) (by decide +kernel)) (fun _ _ _ _ _ => (pg_name (i := 1) sc_law_form.nd rfl (Or.inl rfl))) (fun _ _ _ _ _ => pts_nil) (fun _ _ _ _ _ => (pe_c c_law_form hr (by omega) rfl (pa_cons (pv 1) pa_nil)))) pa_nil) (T.tb _ (List.mem_of_getElem? (i := 1) rfl)) rfl (lamT_mem (i := 1) rfl) (lamT_one T.nd (i := 1) rfl) (hr.mono (by omega))
      ⟨rfl, rfl, rfl, by decide +kernel, rfl, by decide +kernel, by decide +kernel⟩
      (fun A' outer' s' H' f' c' hr' => pe_tup (pa_cons (pe_un un_neg (pe_callB call_len_str (by rfl) (n_len T) (by decide +kernel) (pa_cons (pv 0) pa_nil))) (pa_cons (pv 0) pa_nil))))))
    pe_str)))), ?_⟩
    cases hR with
    | @leaf a nm fr ha =>
      have hne : (decide (V.str nm = V.str "")) = false := decide_eq_false (fun e => isNm_ne hg (by injection e))
      refine ⟨_, rfl, a, _, 0, .str nm, rfl, rfl, SqT.of ha, rfl, rfl, _, rfl, ?_⟩
      rw [hne]
      refine iteT ?_
      refine ⟨_, rfl, a, _, 1, .bl fr, rfl, rfl, SqT.of ha, rfl, fr, rfl, ?_⟩
      cases fr with
      | false =>
        refine iteF ?_
        exact k _ _ .refl rfl
      | true =>
        refine iteT ?_
        exact k _ _ .refl rfl
    | @grp a q ws ps ha hq hps =>
      refine ⟨_, rfl, a, _, 0, .str "", rfl, rfl, SqT.of ha, rfl, rfl, _, rfl, ?_⟩
      refine iteF ?_
      have hs := formL_len hg.2
      have hf := few hg hl
      have hl2 : lvL ps < 64 := hl
      refine ⟨⟨"", rfl⟩, _, rfl, a, _, 1, .ref q, rfl, rfl, SqT.of ha, rfl, q, rfl, ⟨ws, SqT.of hq⟩, fun D hD => lc_tupY (T := TB K) .refl hD hq (by rw [hps.length]; exact Nat.le_trans (Nat.le_of_lt hf) (by decide)) (fun i _ acc => acc = (ps.take i).map fun t => V.str t.form) (fun _ => rfl) (fun _ _ _ _ _ h => h) ?_ ?_⟩
      · intro i x H2 Nx hx e2 kk
        obtain ⟨t, ht, rt⟩ := hps.get hx
        have S := sub_of (List.mem_of_getElem? ht) hh hg hl
        refine ⟨rfl, _, rfl, x, t, rfl, rt.tup (e2.tup lsts_nil), S.hgt, S.good, S.lv, e2.tabs hT, fun v' H' e3 g => kk _ _ e3 fun acc _ h => ?_⟩
        rw [h, g, take_snoc ht, List.map_append]
        rfl
      · intro H' ys e2 hD2 hy
        have e5 : ys = (formL ps).map V.str := by
          rw [hy, hps.length, List.take_length, formL_map, List.map_map]
          rfl
        subst e5
        have hn : (formL ps).length = ps.length := by rw [formL_map, List.length_map]
        have hn2 : (sortF (formL ps)).length = ps.length := by rw [(sortF_perm _).length_eq, hn]
        have hJ := lenJ "" (sortF (formL ps))
        have z1 : ("" : Str).length = 0 := by decide
        have z2 : ("(" : Str).length = 1 := by decide
        have z3 : (")" : Str).length = 1 := by decide
        have z4 : sizeLine = 16777216 := by decide
        rw [formS_len, hn2, z1] at hJ
        refine sortL_form hD2 (e2.tabs hT) (fun z m => ?_) fun H3 e3 p hp => ?_
        · have : z.length ≤ ((formL ps).map (·.length)).sum := mem_sum (List.mem_map.mpr ⟨z, m, rfl⟩)
          omega
        · refine ⟨"", p, sortF (formL ps), rfl, rfl, .inl (SqL.of upd_same), ?_, "(", _, rfl, rfl, ?_, _, ")", rfl, rfl, ?_, k _ _ ((e2.trans e3).alloc hp) rfl⟩
          · rw [formS_len, hn2, z1]; omega
          · omega
          · rw [lenA]; omega) (g_law_form T)
end
end K3

namespace K3
open PySem PySem.Spec PyProof.Rows L2 LamX LK LB
section
variable {P : Program} {w : World} {K : PySem.W.Frag} {mg : Str → Option Value} {base : Heap}
theorem hu1 {k : Nat} {A : Around} (hr : Room k A) : A.units + 1 < cLine := by have := hr.units; omega
theorem hu65 {k : Nat} {A : Around} (hr : Room k A) : A.units + 65 < cLine := by have := hr.un; omega

/-! ### _law_high -/
abbrev gHigh : Tr → Hp → Hp → V → Prop := fun t _ _ v => v = .int (t.hgt : Int)
theorem cal_high (T : Tx K mg base) : ∀ n, Cal P w K mg base (n + 1) "_law_high" (spOne (TB K) n gHigh)
  | 0 => cal_mk (fn_law_high T (fun vs H Q E ⟨v, t, e, _⟩ => by rw [e]; rfl) fun A outer s H vs Q E hr ⟨v, t, e, _, h, _⟩ => absurd h (Nat.not_lt_zero _)) (g_law_high T)
  | n + 1 => cal_mk (fn_law_high T (fun vs H Q E ⟨v, t, e, _⟩ => by rw [e]; rfl) fun A outer s H vs Q E hr h => by
    obtain ⟨v, t, rfl, hR, hh, hg, hl, k⟩ := h
    have c_law_high : Cal P w K mg base (n + 1) "_law_high" (spOne (TB K) n gHigh) := cal_high T n
    refine ⟨_, (pss_cons (ps_if (pt_cmpR op_ne (pe_ix ix_tup (pv 0) pe_int (fun _ _ => rfl)) pe_str (nomark _)) (pss_one (ps_ret pe_int)) pss_nil)
  (pss_one (ps_ret (pe_op op_add pe_int (pe_callB (cr_max rfl) (by rfl) (n_max T) (by decide +kernel) (pa_cons (pe_lc (own := [("part", 1)]) (g := gName 1) (tt := tYes) rfl sc_law_high.nd (pi_tup (pe_ix ix_tup (pv 0) pe_int (fun _ _ => rfl))) (blkOk_by (own := [("part", 1)]) (N := N_law_high) (sc := defScope s_law_high) (by decide +kernel)) (fun _ _ _ _ _ => (pg_name (i := 1) sc_law_high.nd rfl (Or.inl rfl))) (fun _ _ _ _ _ => pts_nil) (fun _ _ _ _ _ => (pe_c c_law_high hr (by omega) rfl (pa_cons (pv 1) pa_nil)))) pa_nil)))))), ?_⟩
    cases hR with
    | @leaf a nm fr ha =>
      have hne : (decide (V.str nm = V.str "")) = false := decide_eq_false (fun e => isNm_ne hg (by injection e))
      refine ⟨_, rfl, a, _, 0, .str nm, rfl, rfl, SqT.of ha, rfl, rfl, _, rfl, ?_⟩
      rw [hne]
      refine iteT ?_
      exact k _ _ .refl rfl
    | @grp a q ws ps ha hq hps =>
      refine ⟨_, rfl, a, _, 0, .str "", rfl, rfl, SqT.of ha, rfl, rfl, _, rfl, ?_⟩
      refine iteF ?_
      have hf := few hg hl
      refine ⟨_, rfl, a, _, 1, .ref q, rfl, rfl, SqT.of ha, rfl, q, rfl, ⟨ws, SqT.of hq⟩, fun D hD => lc_tupY (T := TB K) .refl hD hq (by rw [hps.length]; exact Nat.le_trans (Nat.le_of_lt hf) (by decide)) (fun i _ acc => acc = (ps.take i).map fun t => V.int (t.hgt : Int)) (fun _ => rfl) (fun _ _ _ _ _ h => h) ?_ ?_⟩
      · intro i x H2 Nx hx e2 kk
        obtain ⟨t, ht, rt⟩ := hps.get hx
        have S := sub_of (List.mem_of_getElem? ht) hh hg hl
        refine ⟨rfl, _, rfl, x, t, rfl, rt.tup (e2.tup lsts_nil), S.hgt, S.good, S.lv, fun v' H' e3 g => kk _ _ e3 fun acc _ h => ?_⟩
        rw [h, g, take_snoc ht, List.map_append]
        rfl
      · intro H' ys e2 hD2 hy
        have e5 : ys = (ps.map fun t => (t.hgt : Int)).map V.int := by
          rw [hy, hps.length, List.take_length, List.map_map]
          rfl
        subst e5
        have h2 : 2 ≤ ps.length := hg.1
        refine ⟨D, _, rfl, SqL.of hD2, by rw [List.length_map]; omega, fun m hm hy => ?_⟩
        rw [hgtL_max hm hy]
        refine ⟨_, _, rfl, rfl, k _ _ e2 ?_⟩
        show V.int _ = V.int ((1 + hgtL ps : Nat) : Int)
        congr 1) (g_law_high T)

/-! ### _law_nodes -/
abbrev gNodes : Tr → Hp → Hp → V → Prop := fun t H H' v => ∃ l vs, v = .ref l ∧ Nw H l ∧ H' l = some (.lst vs) ∧ RTs H' vs t.nodes
theorem cal_nodes (T : Tx K mg base) : ∀ n, Cal P w K mg base (n + 1) "_law_nodes" (spOne (TB K) n gNodes)
  | 0 => cal_mk (fn_law_nodes T (fun vs H Q E ⟨v, t, e, _⟩ => by rw [e]; rfl) fun A outer s H vs Q E hr ⟨v, t, e, _, h, _⟩ => absurd h (Nat.not_lt_zero _)) (g_law_nodes T)
  | n + 1 => cal_mk (fn_law_nodes T (fun vs H Q E ⟨v, t, e, _⟩ => by rw [e]; rfl) fun A outer s H vs Q E hr h => by
    obtain ⟨v, t, rfl, hR, hh, hg, hl, k⟩ := h
    have c_law_nodes : Cal P w K mg base (n + 1) "_law_nodes" (spOne (TB K) n gNodes) := cal_nodes T n
    refine ⟨_, (pss_cons (ps_set (i := 1) sc_law_nodes.nd rfl (Or.inl rfl) (pe_lst (pa_cons (pv 0) pa_nil)))
  (pss_cons (ps_if (pt_cmpR op_eq (pe_ix ix_tup (pv 0) pe_int (fun _ _ => rfl)) pe_str (nomark _)) (pss_one (ps_for PassesOwn.never rfl (pi_tup (pe_ix ix_tup (pv 0) pe_int (fun _ _ => rfl))) (pg_name (i := 2) sc_law_nodes.nd rfl (Or.inl rfl)) (pss_one (ps_set (i := 1) sc_law_nodes.nd rfl (Or.inl rfl) (pe_op op_cat (pv 1) (pe_c c_law_nodes hr (by omega) rfl (pa_cons (pv 2) pa_nil))))))) pss_nil)
  (pss_one (ps_ret (pv 1))))), ?_⟩
    refine ⟨_, rfl, (by decide : 1 ≤ sizeLine), fun l0 hl0 => ?_⟩
    have e0 : Stp (TB K) [] H (upd H l0 (.lst [v])) := .new hl0
    have hR0 := hR.tup (e0.tup lsts_nil)
    cases hR with
    | @leaf a nm fr ha =>
      have hne : (decide (V.str nm = V.str "")) = false := decide_eq_false (fun e => isNm_ne hg (by injection e))
      refine ⟨_, rfl, a, _, 0, .str nm, rfl, rfl, SqT.of (e0.get0 ha trivial), rfl, rfl, _, rfl, ?_⟩
      rw [hne]
      refine iteF ?_
      exact ⟨_, rfl, k _ _ e0 ⟨l0, _, rfl, .of hl0, upd_same, .cons hR0 .nil⟩⟩
    | @grp a q ws ps ha hq hps =>
      refine ⟨_, rfl, a, _, 0, .str "", rfl, rfl, SqT.of (e0.get0 ha trivial), rfl, rfl, _, rfl, ?_⟩
      refine iteT ?_
      have hz := nodes_len hg
      have hz1 : (nodesL ps).length + 1 + 1 ≤ 2 * lvL ps := hz
      have hl2 : lvL ps < 64 := hl
      refine ⟨_, rfl, a, _, 1, .ref q, rfl, rfl, SqT.of (e0.get0 ha trivial), rfl, q, rfl, ⟨ws, SqT.of (e0.get0 hq trivial)⟩,
        for_tup (xs := ws) (fun i σ H' => ∃ (l : Addr) (pv0 : Option V) (vs : List V), σ = [some (.ref a), some (.ref l), pv0] ∧ Stp (TB K) [] H H' ∧ Nw H l ∧ H' l = some (.lst vs) ∧ RTs H' vs (.grp ps :: nodesL (ps.take i)))
          ⟨l0, none, _, rfl, e0, .of hl0, upd_same, .cons hR0 .nil⟩ (fun i σ H' _ ⟨_, _, _, _, e, _⟩ => SqT.of (e.get0 hq trivial)) ?_ ?_⟩
      · rintro i x σ H1 hx ⟨l, pv0, vs, rfl, e1, nl, h1, r1⟩
        obtain ⟨t, ht, rt⟩ := hps.get hx
        have S := sub_of (List.mem_of_getElem? ht) hh hg hl
        refine ⟨_, rfl, _, rfl, x, t, rfl, rt.tup (e1.tup lsts_nil), S.hgt, S.good, S.lv, ?_⟩
        rintro v' H2 e2 ⟨p, us, rfl, np, h2, r2⟩
        have r12 := (r1.tup (e2.tup lsts_nil)).append r2
        have hs : (.grp ps :: nodesL (ps.take i)) ++ t.nodes = .grp ps :: nodesL (ps.take (i + 1)) := by
          rw [nodesL_snoc ht]
          rfl
        rw [hs] at r12
        refine ⟨l, p, vs, us, rfl, rfl, e2.get0 h1 trivial, h2, ?_, fun p2 hp2 => ?_⟩
        · have h3 := nodesL_append (ps.take (i + 1)) (ps.drop (i + 1))
          rw [List.take_append_drop] at h3
          have h4 := r12.length
          have h5 := congrArg List.length h3
          rw [List.length_append] at h4 h5
          rw [List.length_cons] at h4
          have z4 : sizeLine = 16777216 := by decide
          omega
        · have e3 := e1.trans e2
          exact ⟨p2, _, _, rfl, e3.alloc hp2, (Nw.of hp2).back e3, upd_same, r12.tup (Tup.new hp2)⟩
      · rintro σ H1 ⟨l, pv0, vs, rfl, e1, nl, h1, r1⟩
        rw [hps.length, List.take_length] at r1
        exact ⟨_, rfl, k _ _ e1 ⟨l, vs, rfl, nl, h1, r1⟩⟩) (g_law_nodes T)

/-! ### _law_left -/
def spLeft (Tb : TBs) (n : Nat) : Sp := fun vs H Q _ => ∃ (v : V) (t : Tr) (wl : Addr) (ws : List Str), vs = [v, .ref wl] ∧ RT H v t ∧ t.hgt < n ∧ t.good ∧ t.lv < 64 ∧ Tabs Tb H ∧ H wl = some (.lst (ws.map V.str)) ∧
  ∀ l us H', Stp Tb [] H H' → Nw H l → H' l = some (.lst us) → RTs H' us (t.left ws) → Q (.ref l) H'
theorem inV_str {x : Str} {ws : List Str} : inV (.str x) (ws.map V.str) = decide (x ∈ ws) := by
  unfold inV
  rw [Bool.eq_iff_iff, List.any_map, List.any_eq_true, decide_eq_true_eq]
  constructor
  · rintro ⟨y, m, h⟩
    have h2 : (y == x) = true := h
    rw [← eq_of_beq h2]
    exact m
  · intro m
    exact ⟨x, m, (by show (x == x) = true; exact beq_self_eq_true x)⟩
theorem flat_strs : ∀ ws : List Str, (ws.map V.str).all flatV = true
  | [] => rfl
  | x :: r => by
    rw [List.map_cons, List.all_cons, flat_strs r]
    rfl
theorem cal_left (T : Tx K mg base) : ∀ n, Cal P w K mg base (n + 70) "_law_left" (spLeft (TB K) n)
  | 0 => cal_mk (fn_law_left T (fun vs H Q E ⟨v, t, wl, ws, e, _⟩ => by rw [e]; rfl) fun A outer s H vs Q E hr ⟨v, t, wl, ws, e, _, h, _⟩ => absurd h (Nat.not_lt_zero _)) (g_law_left T)
  | n + 1 => cal_mk (fn_law_left T (k := n + 70) (fun vs H Q E ⟨v, t, wl, ws, e, _⟩ => by rw [e]; rfl) fun A outer s H vs Q E hr h => by
    obtain ⟨v, t, wl, ws, rfl, hR, hh, hg, hl, hT, hw, k⟩ := h
    have c_law_left : Cal P w K mg base (n + 70) "_law_left" (spLeft (TB K) n) := cal_left T n
    have c_law_group : Cal P w K mg base 69 "_law_group" (spGroup (TB K)) := cal_group T
    refine ⟨_, (pss_cons (ps_if (pt_cmpR op_ne (pe_ix ix_tup (pv 0) pe_int (fun _ _ => rfl)) pe_str (nomark _)) (pss_one (ps_ret (pe_ifExp (pt_cmpR op_in_seq (pe_ix ix_tup (pv 0) pe_int (fun _ _ => rfl)) (pv 1) (by rfl)) (pe_lst (pa_cons (pv 0) pa_nil)) (pe_lst pa_nil)))) pss_nil)
  (pss_cons (ps_set (i := 2) sc_law_left.nd rfl (Or.inl rfl) (pe_lst pa_nil))
  (pss_cons (ps_for PassesOwn.never rfl (pi_tup (pe_ix ix_tup (pv 0) pe_int (fun _ _ => rfl))) (pg_name (i := 3) sc_law_left.nd rfl (Or.inl rfl)) (pss_one (ps_set (i := 2) sc_law_left.nd rfl (Or.inl rfl) (pe_op op_cat (pv 2) (pe_c c_law_left hr (by omega) rfl (pa_cons (pv 3) (pa_cons (pv 1) pa_nil)))))))
  (pss_one (ps_ret (pe_ifExp (pt_cmpR op_lt (pe_callB call_len_seq (by rfl) (n_len T) (by decide +kernel) (pa_cons (pv 2) pa_nil)) pe_int (nomark _)) (pv 2) (pe_lst (pa_cons (pe_c c_law_group hr (by omega) rfl (pa_cons (pv 2) pa_nil)) pa_nil)))))))), ?_⟩
    cases hR with
    | @leaf a nm fr ha =>
      have hne : (decide (V.str nm = V.str "")) = false := decide_eq_false (fun e => isNm_ne hg (by injection e))
      refine ⟨_, rfl, a, _, 0, .str nm, rfl, rfl, SqT.of ha, rfl, rfl, _, rfl, ?_⟩
      rw [hne]
      refine iteT ?_
      refine ⟨_, rfl, a, _, 0, .str nm, rfl, rfl, SqT.of ha, rfl, _, rfl, wl, _, rfl, .inl (SqL.of hw), rfl, flat_strs _, ?_⟩
      refine ⟨_, rfl, ?_⟩
      rw [inV_str]
      by_cases hm : nm ∈ ws
      · rw [decide_eq_true hm]
        refine iteT ?_
        refine ⟨_, rfl, (by decide : 1 ≤ sizeLine), fun p hp => k p _ _ (.new hp) (.of hp) upd_same ?_⟩
        have e4 : (Tr.leaf nm fr).left ws = [.leaf nm fr] := by
          unfold Tr.left
          rw [if_pos hm]
        rw [e4]
        exact .cons (.leaf (by rw [upd_ne (ne_of_none ha hp)]; exact ha)) .nil
      · rw [decide_eq_false hm]
        refine iteF ?_
        refine ⟨(by decide : 0 ≤ sizeLine), fun p hp => k p _ _ (.new hp) (.of hp) upd_same ?_⟩
        have e4 : (Tr.leaf nm fr).left ws = [] := by
          unfold Tr.left
          rw [if_neg hm]
        rw [e4]
        exact .nil
    | @grp a q vs ps ha hq hps =>
      refine ⟨_, rfl, a, _, 0, .str "", rfl, rfl, SqT.of ha, rfl, rfl, _, rfl, ?_⟩
      refine iteF ?_
      have hz1 : lvL ps < 64 := hl
      refine ⟨Nat.zero_le _, fun l0 hl0 => ?_⟩
      have e0 : Stp (TB K) [] H (upd H l0 (.lst [])) := .new hl0
      refine ⟨_, rfl, a, _, 1, .ref q, rfl, rfl, SqT.of (e0.get0 ha trivial), rfl, q, rfl, ⟨vs, SqT.of (e0.get0 hq trivial)⟩,
        for_tup (xs := vs) (fun i σ H' => ∃ (l : Addr) (pv0 : Option V) (us : List V), σ = [some (.ref a), some (.ref wl), some (.ref l), pv0] ∧ Stp (TB K) [] H H' ∧ Nw H l ∧ H' l = some (.lst us) ∧ RTs H' us (leftL ws (ps.take i)))
          ⟨l0, none, _, rfl, e0, .of hl0, upd_same, .nil⟩ (fun i σ H' _ ⟨_, _, _, _, e, _⟩ => SqT.of (e.get0 hq trivial)) ?_ ?_⟩
      · rintro i x σ H1 hx ⟨l, pv0, us, rfl, e1, nl, h1, r1⟩
        obtain ⟨t, ht, rt⟩ := hps.get hx
        have S := sub_of (List.mem_of_getElem? ht) hh hg hl
        refine ⟨_, rfl, _, rfl, _, rfl, x, t, wl, ws, rfl, rt.tup (e1.tup lsts_nil), S.hgt, S.good, S.lv, e1.tabs hT, e1.get0 hw trivial, ?_⟩
        intro p us2 H2 e2 np h2 r2
        have r12 := (r1.tup (e2.tup lsts_nil)).append r2
        rw [← leftL_snoc ht] at r12
        refine ⟨l, p, us, us2, rfl, rfl, e2.get0 h1 trivial, h2, ?_, fun p2 hp2 => ?_⟩
        · have h4 := r12.length
          rw [List.length_append] at h4
          have h5 := len_lv (leftL_good (ws := ws) (goodL_mem.mpr fun u hu => goodL_mem.mp hg.2 u (List.mem_of_mem_take (i := i + 1) hu)))
          have h6 := leftL_lv ws (ps.take (i + 1))
          have h7 := lvL_take ps (i + 1)
          have z4 : sizeLine = 16777216 := by decide
          omega
        · have e3 := e1.trans e2
          exact ⟨p2, _, _, rfl, e3.alloc hp2, (Nw.of hp2).back e3, upd_same, r12.tup (Tup.new hp2)⟩
      · rintro σ H1 ⟨l, pv0, us, rfl, e1, nl, h1, r1⟩
        rw [hps.length, List.take_length] at r1
        have gL := leftL_good (ws := ws) hg.2
        have vL := leftL_lv ws ps
        have e4 : (Tr.grp ps).left ws = heap1 (leftL ws ps) := rfl
        refine ⟨_, rfl, ⟨l, us, rfl, .inl (SqL.of h1), ?_⟩⟩
        rw [r1.length]
        refine ⟨_, _, rfl, rfl, _, rfl, ?_⟩
        by_cases h2 : (leftL ws ps).length < 2
        · rw [decide_eq_true (by omega)]
          refine iteT ?_
          refine ⟨_, rfl, k l us H1 e1 nl h1 ?_⟩
          rw [e4]
          unfold heap1
          rw [if_pos h2]
          exact r1
        · rw [decide_eq_false (by omega)]
          refine iteF ?_
          have hh2 := hgtL_lv gL
          refine ⟨_, rfl, _, leftL ws ps, rfl, ⟨l, us, rfl, h1, r1⟩, by omega, gL, by omega, e1.tabs hT, fun v' H2 r2 e2 => ⟨(by decide : 1 ≤ sizeLine), fun p hp => ?_⟩⟩
          refine k p _ _ ((e1.trans e2).alloc hp) ((Nw.of hp).back (e1.trans e2)) upd_same ?_
          rw [e4]
          unfold heap1
          rw [if_neg h2]
          exact .cons (r2.tup (Tup.new hp)) .nil) (g_law_left T)
end
end K3

namespace K3
open PySem PySem.Spec PyProof.Rows L2 LamX LK LB
section
variable {P : Program} {w : World} {K : PySem.W.Frag} {mg : Str → Option Value} {base : Heap}
/-! ### _law_turned -/
def spTurned (Tb : TBs) (n : Nat) : Sp := fun vs H Q _ => ∃ (v : V) (t : Tr) (d : Addr) (kvs : List (Key × V)) (f : Str → Str), vs = [v, .ref d] ∧ RT H v t ∧ t.hgt < n ∧ t.good ∧ t.lv < 64 ∧ Tabs Tb H ∧ H d = some (.dK kvs) ∧
  (∀ w ∈ t.under, valV kvs (.inr w) = some (.str (f w)) ∧ isNm (f w) = true) ∧ ∀ v' H', Stp Tb [] H H' → RT H' v' (t.turn f) → Q v' H'
theorem cal_turned (T : Tx K mg base) : ∀ n, Cal P w K mg base (n + 70) "_law_turned" (spTurned (TB K) n)
  | 0 => cal_mk (fn_law_turned T (fun vs H Q E ⟨v, t, d, kvs, f, e, _⟩ => by rw [e]; rfl) fun A outer s H vs Q E hr ⟨v, t, d, kvs, f, e, _, h, _⟩ => absurd h (Nat.not_lt_zero _)) (g_law_turned T)
  | n + 1 => cal_mk (fn_law_turned T (k := n + 70) (fun vs H Q E ⟨v, t, d, kvs, f, e, _⟩ => by rw [e]; rfl) fun A outer s H vs Q E hr h => by
    obtain ⟨v, t, d, kvs, f, rfl, hR, hh, hg, hl, hT, hd, hf, k⟩ := h
    have hu := hu1 hr
    have c_law_turned : Cal P w K mg base (n + 70) "_law_turned" (spTurned (TB K) n) := cal_turned T n
    have c_law_group : Cal P w K mg base 69 "_law_group" (spGroup (TB K)) := cal_group T
    refine ⟨_, (pss_cons (ps_if (pt_cmpR op_ne (pe_ix ix_tup (pv 0) pe_int (fun _ _ => rfl)) pe_str (nomark _)) (pss_one (ps_ret (pe_tup (pa_cons (pe_dget hu (pv 1) (pe_ix ix_tup (pv 0) pe_int (fun _ _ => rfl)) (fun _ _ => rfl)) (pa_cons (pe_ix ix_tup (pv 0) pe_int (fun _ _ => rfl)) pa_nil))))) pss_nil)
  (pss_one (ps_ret (pe_c c_law_group hr (by omega) rfl (pa_cons (pe_lc (own := [("part", 2)]) (g := gName 2) (tt := tYes) rfl sc_law_turned.nd (pi_tup (pe_ix ix_tup (pv 0) pe_int (fun _ _ => rfl))) (blkOk_by (own := [("part", 2)]) (N := N_law_turned) (sc := defScope s_law_turned) (by decide +kernel)) (fun _ _ _ _ _ => (pg_name (i := 2) sc_law_turned.nd rfl (Or.inl rfl))) (fun _ _ _ _ _ => pts_nil) (fun _ _ _ _ _ => (pe_c c_law_turned hr (by omega) rfl (pa_cons (pv 2) (pa_cons (pv 1) pa_nil))))) pa_nil))))), ?_⟩
    cases hR with
    | @leaf a nm fr ha =>
      have hne : (decide (V.str nm = V.str "")) = false := decide_eq_false (fun e => isNm_ne hg (by injection e))
      obtain ⟨q1, q2⟩ := hf nm (by simp [Tr.under])
      refine ⟨_, rfl, a, _, 0, .str nm, rfl, rfl, SqT.of ha, rfl, rfl, _, rfl, ?_⟩
      rw [hne]
      refine iteT ?_
      refine ⟨_, rfl, _, rfl, a, _, 0, .str nm, rfl, rfl, SqT.of ha, rfl, d, _, rfl, ?_, _, rfl, a, _, 1, .bl fr, rfl, rfl, SqT.of ha, rfl, (by decide : 2 ≤ sizeLine), fun p hp => k _ _ (.new hp) (.leaf upd_same)⟩
      rw [← q1]
      exact DGet.k (k := .inr nm) hd
    | @grp a q ws ps ha hq hps =>
      refine ⟨_, rfl, a, _, 0, .str "", rfl, rfl, SqT.of ha, rfl, rfl, _, rfl, ?_⟩
      refine iteF ?_
      have hz := few hg hl
      have hl2 : lvL ps < 64 := hl
      have hh2 : 1 + hgtL ps < n + 1 := hh
      refine ⟨_, rfl, a, _, 1, .ref q, rfl, rfl, SqT.of ha, rfl, q, rfl, ⟨ws, SqT.of hq⟩, fun D hD => lc_tupY (T := TB K) .refl hD hq (by rw [hps.length]; exact Nat.le_trans (Nat.le_of_lt hz) (by decide)) (fun i H acc => RTs H acc (turnL f (ps.take i))) (fun _ => .nil) (fun _ _ _ _ e h => h.tup e) ?_ ?_⟩
      · intro i x H2 Nx hx e2 kk
        obtain ⟨t, ht, rt⟩ := hps.get hx
        have hm := List.mem_of_getElem? ht
        have S := sub_of hm hh hg hl
        refine ⟨rfl, _, rfl, _, rfl, x, t, d, kvs, f, rfl, rt.tup (e2.tup lsts_nil), S.hgt, S.good, S.lv, e2.tabs hT, e2.get0 hd trivial, fun w mw => hf w (mem_under hm mw), fun v' H' e3 g => kk _ _ e3 fun acc _ h => ?_⟩
        have e5 : turnL f (ps.take (i + 1)) = turnL f (ps.take i) ++ [t.turn f] := by
          rw [turnL_map, turnL_map, take_snoc ht, List.map_append]
          rfl
        rw [e5]
        exact (h.tup (e3.tup lsts_nil)).append (.cons g .nil)
      · intro H' ys e2 hD2 hy
        rw [hps.length, List.take_length] at hy
        refine ⟨_, turnL f ps, rfl, ⟨D, ys, rfl, hD2, hy⟩, ?_, turnL_good hg.2 fun w mw => (hf w (sortS_mem.mpr mw)).2, ?_, e2.tabs hT, fun v' H2 r2 e3 => k _ _ (e2.trans e3) r2⟩
        · rw [turnL_hgt]
          have := hgtL_lv hg.2
          have h2 : 2 ≤ ps.length := hg.1
          omega
        · rw [turnL_lv]
          exact hl) (g_law_turned T)

/-! ### _law_swapped -/
def spSwapped (Tb : TBs) (n : Nat) : Sp := fun vs H Q _ => ∃ (v : V) (t : Tr) (z : Str), vs = [v, .str z] ∧ RT H v t ∧ t.hgt < n ∧ t.good ∧ t.lv < 64 ∧ Tabs Tb H ∧ ∀ v' H', Stp Tb [] H H' → RT H' v' (t.swap z) → Q v' H'
theorem cal_swapped (T : Tx K mg base) : ∀ n, Cal P w K mg base (n + 70) "_law_swapped" (spSwapped (TB K) n)
  | 0 => cal_mk (fn_law_swapped T (fun vs H Q E ⟨v, t, z, e, _⟩ => by rw [e]; rfl) fun A outer s H vs Q E hr ⟨v, t, z, e, _, h, _⟩ => absurd h (Nat.not_lt_zero _)) (g_law_swapped T)
  | n + 1 => cal_mk (fn_law_swapped T (k := n + 70) (fun vs H Q E ⟨v, t, z, e, _⟩ => by rw [e]; rfl) fun A outer s H vs Q E hr h => by
    obtain ⟨v, t, z, rfl, hR, hh, hg, hl, hT, k⟩ := h
    have c_law_swapped : Cal P w K mg base (n + 70) "_law_swapped" (spSwapped (TB K) n) := cal_swapped T n
    have c_law_group : Cal P w K mg base 69 "_law_group" (spGroup (TB K)) := cal_group T
    refine ⟨_, (pss_cons (ps_if (pt_cmpR op_ne (pe_ix ix_tup (pv 0) pe_int (fun _ _ => rfl)) pe_str (nomark _)) (pss_one (ps_ret (pe_ifExp (pt_cmpR op_eq (pe_ix ix_tup (pv 0) pe_int (fun _ _ => rfl)) (pv 1) (nomark _)) (pe_tup (pa_cons (pe_ix ix_tup (pv 0) pe_int (fun _ _ => rfl)) (pa_cons (pe_not (pe_ix ix_tup (pv 0) pe_int (fun _ _ => rfl))) pa_nil))) (pv 0)))) pss_nil)
  (pss_one (ps_ret (pe_c c_law_group hr (by omega) rfl (pa_cons (pe_lc (own := [("part", 2)]) (g := gName 2) (tt := tYes) rfl sc_law_swapped.nd (pi_tup (pe_ix ix_tup (pv 0) pe_int (fun _ _ => rfl))) (blkOk_by (own := [("part", 2)]) (N := N_law_swapped) (sc := defScope s_law_swapped) (by decide +kernel)) (fun _ _ _ _ _ => (pg_name (i := 2) sc_law_swapped.nd rfl (Or.inl rfl))) (fun _ _ _ _ _ => pts_nil) (fun _ _ _ _ _ => (pe_c c_law_swapped hr (by omega) rfl (pa_cons (pv 2) (pa_cons (pv 1) pa_nil))))) pa_nil))))), ?_⟩
    cases hR with
    | @leaf a nm fr ha =>
      have hne : (decide (V.str nm = V.str "")) = false := decide_eq_false (fun e => isNm_ne hg (by injection e))
      refine ⟨_, rfl, a, _, 0, .str nm, rfl, rfl, SqT.of ha, rfl, rfl, _, rfl, ?_⟩
      rw [hne]
      refine iteT ?_
      refine ⟨_, rfl, a, _, 0, .str nm, rfl, rfl, SqT.of ha, rfl, _, rfl, rfl, _, rfl, ?_⟩
      by_cases hz : nm = z
      · subst hz
        rw [decide_eq_true rfl]
        refine iteT ?_
        refine ⟨_, rfl, a, _, 0, .str nm, rfl, rfl, SqT.of ha, rfl, _, rfl, a, _, 1, .bl fr, rfl, rfl, SqT.of ha, rfl, ?_⟩
        refine ⟨fr, rfl, (by decide : 2 ≤ sizeLine), fun p hp => k _ _ (.new hp) ?_⟩
        unfold Tr.swap
        rw [if_pos rfl]
        exact .leaf upd_same
      · rw [decide_eq_false (fun e => hz (by injection e))]
        refine iteF ?_
        refine ⟨_, rfl, k _ _ .refl ?_⟩
        unfold Tr.swap
        rw [if_neg hz]
        exact .leaf ha
    | @grp a q ws ps ha hq hps =>
      refine ⟨_, rfl, a, _, 0, .str "", rfl, rfl, SqT.of ha, rfl, rfl, _, rfl, ?_⟩
      refine iteF ?_
      have hf := few hg hl
      have hl2 : lvL ps < 64 := hl
      have hh2 : 1 + hgtL ps < n + 1 := hh
      refine ⟨_, rfl, a, _, 1, .ref q, rfl, rfl, SqT.of ha, rfl, q, rfl, ⟨ws, SqT.of hq⟩, fun D hD => lc_tupY (T := TB K) .refl hD hq (by rw [hps.length]; exact Nat.le_trans (Nat.le_of_lt hf) (by decide)) (fun i H acc => RTs H acc (swapL z (ps.take i))) (fun _ => .nil) (fun _ _ _ _ e h => h.tup e) ?_ ?_⟩
      · intro i x H2 Nx hx e2 kk
        obtain ⟨t, ht, rt⟩ := hps.get hx
        have hm := List.mem_of_getElem? ht
        have S := sub_of hm hh hg hl
        refine ⟨rfl, _, rfl, _, rfl, x, t, z, rfl, rt.tup (e2.tup lsts_nil), S.hgt, S.good, S.lv, e2.tabs hT, fun v' H' e3 g => kk _ _ e3 fun acc _ h => ?_⟩
        have e5 : swapL z (ps.take (i + 1)) = swapL z (ps.take i) ++ [t.swap z] := by
          rw [swapL_map, swapL_map, take_snoc ht, List.map_append]
          rfl
        rw [e5]
        exact (h.tup (e3.tup lsts_nil)).append (.cons g .nil)
      · intro H' ys e2 hD2 hy
        rw [hps.length, List.take_length] at hy
        refine ⟨_, swapL z ps, rfl, ⟨D, ys, rfl, hD2, hy⟩, ?_, swapL_good hg.2, ?_, e2.tabs hT, fun v' H2 r2 e3 => k _ _ (e2.trans e3) r2⟩
        · rw [swapL_hgt]
          have := hgtL_lv hg.2
          have h2 : 2 ≤ ps.length := hg.1
          omega
        · rw [swapL_lv]
          exact hl) (g_law_swapped T)

/-! ### _law_way -/
def wayT (t : Tr) (z : Str) : List Tr := t.nodes.filter fun u => decide (z ∈ u.under)
def spWay (Tb : TBs) : Sp := fun vs H Q _ => ∃ (v : V) (t : Tr) (z : Str), vs = [v, .str z] ∧ RT H v t ∧ t.hgt < 63 ∧ t.good ∧ t.lv < 64 ∧
  ∀ l us H', Stp Tb [] H H' → Nw H l → H' l = some (.lst us) → RTs H' us (wayT t z) → Q (.ref l) H'
theorem cal_way (T : Tx K mg base) : Cal P w K mg base 66 "_law_way" (spWay (TB K)) :=
  cal_mk (fn_law_way T (k := 65) (fun vs H Q E ⟨v, t, z, e, _⟩ => by rw [e]; rfl) fun A outer s H vs Q E hr h => by
    obtain ⟨v, t, z, rfl, hR, hh, hg, hl, k⟩ := h
    have c_law_nodes : Cal P w K mg base 64 "_law_nodes" (spOne (TB K) 63 gNodes) := cal_nodes T 63
    have c_law_under : Cal P w K mg base 64 "_law_under" (spUnder (TB K) 63) := cal_under T 63
    refine ⟨_, (pss_one (ps_ret (pe_lc (own := [("node", 2)]) (g := gName 2) rfl sc_law_way.nd (pi_list (pe_c c_law_nodes hr (by omega) rfl (pa_cons (pv 0) pa_nil))) (blkOk_by (own := [("node", 2)]) (N := N_law_way) (sc := defScope s_law_way) (by decide +kernel)) (fun _ _ _ _ _ => (pg_name (i := 2) sc_law_way.nd rfl (Or.inl rfl))) (fun _ _ _ _ _ => pts_one (pt_cmpR (r := rIn K false) op_in_seq (pv 1) (pe_c c_law_under hr (by omega) rfl (pa_cons (pv 2) pa_nil)) (by rfl))) (fun _ _ _ _ _ => (pv 2))))), ?_⟩
    refine ⟨_, rfl, v, t, rfl, hR, hh, hg, hl, ?_⟩
    rintro _ H1 e1 ⟨p, us, rfl, np, h1, r1⟩
    have hz := nodes_len hg
    refine ⟨p, rfl, ⟨us, SqL.of h1⟩, fun D hD => lc_list0 (T := TB K) .refl hD h1 (by rw [r1.length]; have z4 : sizeLine = 16777216 := (by decide); omega) (fun i H acc => RTs H acc ((t.nodes.take i).filter fun u => decide (z ∈ u.under))) (fun _ => .nil) (fun _ _ _ _ e h => h.tup e) ?_ ?_⟩
    · intro i x H2 Nx hx e2 kk kn
      obtain ⟨u, hu, ru⟩ := r1.get hx
      have hm := List.mem_of_getElem? hu
      have hgu := nodes_good hg u hm
      refine ⟨rfl, _, rfl, _, rfl, x, u, rfl, ru.tup (e2.tup lsts_nil), ?_, hgu.1, ?_, fun q H3 nq e3 h3 => ⟨q, _, rfl, .inl (SqL.of h3), rfl, flat_strs _, ?_⟩⟩
      · omega
      · omega
      · refine ⟨_, rfl, ?_⟩
        rw [inV_str]
        by_cases hw : z ∈ u.under
        · rw [decide_eq_true hw]
          refine iteT ?_
          refine ⟨_, rfl, kk _ _ e3 fun acc _ ha => ?_⟩
          rw [take_snoc hu, List.filter_append]
          have e5 : [u].filter (fun u => decide (z ∈ u.under)) = [u] := by simp [hw]
          rw [e5]
          exact (ha.tup (e3.tup lsts_nil)).append (.cons (ru.tup ((e2.trans e3).tup lsts_nil)) .nil)
        · rw [decide_eq_false hw]
          refine iteF ?_
          refine kn _ e3 fun acc ha => ?_
          rw [take_snoc hu, List.filter_append]
          have e5 : [u].filter (fun u => decide (z ∈ u.under)) = [] := by simp [hw]
          rw [e5, List.append_nil]
          exact ha.tup (e3.tup lsts_nil)
    · intro H' ys e2 hD2 hy
      rw [r1.length, List.take_length] at hy
      exact k D ys H' (e1.trans e2) ((Nw.of hD).back e1) hD2 hy) (g_law_way T)
end
end K3

namespace K3
open PySem PySem.Spec PyProof.Rows L2 LamX LK LB
section
variable {P : Program} {w : World} {K : PySem.W.Frag} {mg : Str → Option Value} {base : Heap}
theorem zL : sizeLine = 16777216 := by decide
section
variable {T : TBs} {H : Hp} {q : Addr} {xs : List V} {k : Nat} {Q : VK}
/-- list(t[:k]) -/
theorem slA_pre (hq : H q = some (.tup xs)) (h : ∀ p H', Stp T [] H H' → H' p = some (.tup (xs.take k)) → Q (.ref p) H') : rSlA K (.ref q) none (some (k : Int)) H Q := by
  refine ⟨q, xs, rfl, SqT.of hq, fun e => ?_, fun e p hp => ?_⟩
  · rw [HT.sIx_nat, HT.sIx_none] at e
    refine h q H .refl ?_
    rw [List.take_of_length_le (by omega)]
    exact hq
  · refine h p _ (.new hp) ?_
    rw [upd_same]
    unfold cutV
    rw [HT.sIx_nat, HT.sIx_none, List.drop_zero, Nat.sub_zero]
    congr 2
    rcases Nat.le_total k xs.length with z | z
    · rw [Nat.min_eq_left z]
    · rw [Nat.min_eq_right z, List.take_of_length_le z, List.take_of_length_le (Nat.le_refl _)]
theorem slA_suf {z : Int} (hz : z = (k : Int)) (hq : H q = some (.tup xs)) (h : ∀ p H', Stp T [] H H' → H' p = some (.tup (xs.drop k)) → Q (.ref p) H') : rSlA K (.ref q) (some z) none H Q := by
  subst hz
  refine ⟨q, xs, rfl, SqT.of hq, fun e => ?_, fun e p hp => ?_⟩
  · rw [HT.sIx_nat, HT.sIx_none] at e
    refine h q H .refl ?_
    have : k = 0 ∨ xs.length = 0 := by omega
    rcases this with rfl | z
    · rw [List.drop_zero]
      exact hq
    · have z2 : xs = [] := List.eq_nil_of_length_eq_zero z
      rw [z2, List.drop_nil]
      rw [z2] at hq
      exact hq
  · refine h p _ (.new hp) ?_
    rw [upd_same]
    unfold cutV
    rw [HT.sIx_nat, HT.sIx_none]
    congr 2
    rcases Nat.le_total k xs.length with z | z
    · rw [Nat.min_eq_left z, List.take_of_length_le (by rw [List.length_drop]; omega)]
    · rw [Nat.min_eq_right z, Nat.sub_self, List.take_zero, List.drop_of_length_le z]
end
structure Ask (Tb : TBs) (H : Hp) (n : Nat) (v : V) (t : Tr) (wl : Addr) (ws : List Str) : Prop where
  r : RT H v t
  h : t.hgt < n
  g : t.good
  nm : t.norm
  l : t.lv < 30
  tb : Tabs Tb H
  w : H wl = some (.lst (ws.map V.str))
  ok : ∀ w ∈ ws, PyData.strOk w = true
theorem Ask.step {Tb : TBs} {H H' : Hp} {n : Nat} {v : V} {t : Tr} {wl : Addr} {ws : List Str} (A : Ask Tb H n v t wl ws) (e : Stp Tb [] H H') : Ask Tb H' n v t wl ws :=
  ⟨A.r.tup (e.tup lsts_nil), A.h, A.g, A.nm, A.l, e.tabs A.tb, e.get0 A.w trivial, A.ok⟩
theorem Ask.sub {Tb : TBs} {H : Hp} {n : Nat} {v x : V} {ps : List Tr} {t : Tr} {wl : Addr} {ws : List Str} (A : Ask Tb H (n + 1) v (.grp ps) wl ws) (hm : t ∈ ps) (r : RT H x t) : Ask Tb H n x t wl ws := by
  have h3 : 1 + hgtL ps < n + 1 := A.h
  have h4 : lvL ps < 30 := A.l
  have := hgtL_mem hm
  have := lvL_mem hm
  exact ⟨r, by omega, goodL_mem.mp A.g.2 t hm, normL_mem.mp A.nm.2 t hm, by omega, A.tb, A.w, A.ok⟩
def Ans (Tb : TBs) (Q : VK) (H : Hp) (G : List Tr → Prop) : Prop := ∀ l us ts H', Stp Tb [] H H' → Nw H l → H' l = some (.lst us) → RTs H' us ts → G ts → Q (.ref l) H'
theorem Ans.back {Tb : TBs} {Q : VK} {H H1 : Hp} {G : List Tr → Prop} (a : Ans Tb Q H G) (e : Stp Tb [] H H1) : Ans Tb Q H1 G := fun l us ts H' e2 n h r g => a l us ts H' (e.trans e2) (n.back e) h r g
def spJ (Tb : TBs) (n : Nat) : Sp := fun vs H Q _ => ∃ (v : V) (t : Tr) (wl : Addr) (ws : List Str), vs = [v, .ref wl] ∧ Ask Tb H n v t wl ws ∧ Ans Tb Q H (Res [] t)
def GA (nm : Str) (t : Tr) (ws : List Str) (ts : List Tr) : Prop := Res [nm] t ts ∧ ((∃ u ∈ t.nodes, u.under = ws) → ts ≠ [])
def spA (Tb : TBs) (n : Nat) : Sp := fun vs H Q _ => ∃ (v : V) (t : Tr) (wl : Addr) (ws : List Str) (x : V) (nm : Str) (fr : Bool), vs = [v, .ref wl, x] ∧ Ask Tb H n v t wl ws ∧ RT H x (.leaf nm fr) ∧ isNm nm = true ∧ Ans Tb Q H (GA nm t ws)
def GI (s : Int) (ex : List Str) (ps : List Tr) (ws : List Str) (ts : List Tr) : Prop := Res ex (.grp ps) ts ∧ (s = 2 → (∃ u ∈ nodesL ps, u.under = ws) → ts ≠ [])
def Kd (H : Hp) (s : Int) (ex : List Str) (x : V) : Prop := s = 0 ∧ ex = [] ∨ s = 1 ∧ ex = [] ∨ s = 2 ∧ ∃ nm fr, ex = [nm] ∧ isNm nm = true ∧ RT H x (.leaf nm fr)
theorem Kd.few {H : Hp} {s : Int} {ex : List Str} {x : V} (h : Kd H s ex x) : ex.length ≤ 1 := by
  rcases h with ⟨_, rfl⟩ | ⟨_, rfl⟩ | ⟨_, nm, fr, rfl, _⟩ <;> simp
def spI (Tb : TBs) (n : Nat) : Sp := fun vs H Q _ => ∃ (v : V) (ps : List Tr) (wl : Addr) (ws : List Str) (x : V) (s : Int) (ex : List Str), vs = [v, .ref wl, .int s, x] ∧ Ask Tb H n v (.grp ps) wl ws ∧ Kd H s ex x ∧ Ans Tb Q H (GI s ex ps ws)

/-- [_law_group(ts)], behind all else -/
theorem grp_end {T : TBs} {Q : VK} {H H1 H2 : Hp} {v' : V} {L : List Tr} {G : List Tr → Prop} (a : Ans T Q H G) (e : Stp T [] H H1) (e2 : Stp T [] H1 H2) (r : RT H2 v' (group L)) (g : G [group L]) :
    ([v'] : List V).length ≤ sizeLine ∧ ∀ p, H2 p = none → Q (.ref p) (upd H2 p (.lst [v'])) :=
  ⟨(by decide : 1 ≤ sizeLine), fun p hp => a p [v'] [group L] _ ((e.trans e2).alloc hp) ((Nw.of hp).back (e.trans e2)) upd_same (.cons (r.tup (Tup.new hp)) .nil) g⟩
theorem rts_ne {H : Hp} {l : Addr} {us : List V} {ts : List Tr} {K : PySem.W.Frag} (h : H l = some (.lst us)) (r : RTs H us ts) : Dp K H (.ref l) (.list (dataL ts)) := .lst (SqL.of h) r.dp

theorem res_few {ex : List Str} {t : Tr} {ts : List Tr} (r : Res ex t ts) (hl : t.lv < 30) (hg : t.good) (h : ex.length ≤ 1) : goodL ts ∧ hgtL ts < 30 := by
  rcases r with rfl | ⟨t', rfl, g', _, p⟩
  · exact ⟨trivial, by decide⟩
  · have h1 := p.length_eq
    rw [List.length_append, under_len, under_len] at h1
    have h2 := hgt_lv g'
    refine ⟨⟨g', trivial⟩, ?_⟩
    simp only [hgtL]
    omega
theorem und1 {t' : Tr} {xs : List Str} (p : t'.under.Perm xs) : (underL [t']).Perm xs := by
  rw [show underL [t'] = t'.under from List.append_nil _]
  exact p
theorem cal_inside_of (T : Tx K mg base) {n : Nat} (c_law_joined : Cal P w K mg base (2 * n + 73) "_law_joined" (spJ (TB K) n)) (c_law_loose : Cal P w K mg base (2 * n + 73) "_law_loose" (spJ (TB K) n)) (c_law_added : Cal P w K mg base (2 * n + 73) "_law_added" (spA (TB K) n)) :
    Cal P w K mg base (2 * n + 74) "_law_inside" (spI (TB K) (n + 1)) :=
  cal_mk (fn_law_inside T (k := 2 * n + 73) (fun vs H Q E ⟨v, ps, wl, ws, x, s, ex, e, _⟩ => by rw [e]; rfl) fun A outer s H vs Q E hr h => by
    obtain ⟨v, ps, wl, ws, x, so, ex, rfl, A0, hs, k⟩ := h
    have c_law_group : Cal P w K mg base 69 "_law_group" (spGroup (TB K)) := cal_group T
    refine ⟨_, (pss_cons (ps_for PassesOwn.never rfl (pi_range1 (by rfl) (n_range T) (pa_cons (pe_callB call_len_seq (by rfl) (n_len T) (by decide +kernel) (pa_cons (pe_ix ix_tup (pv 0) pe_int (fun _ _ => rfl)) pa_nil)) pa_nil)) (pg_name (i := 4) sc_law_inside.nd rfl (Or.inl rfl)) (pss_cons (ps_set (i := 5) sc_law_inside.nd rfl (Or.inl rfl) (pe_ix ix_tup (pe_ix ix_tup (pv 0) pe_int (fun _ _ => rfl)) (pv 4) (fun _ _ => rfl)))
  (pss_cons (ps_if (pt_cmpR op_eq (pv 2) pe_int (nomark _)) (pss_one (ps_set (i := 6) sc_law_inside.nd rfl (Or.inl rfl) (pe_c c_law_joined hr (by omega) rfl (pa_cons (pv 5) (pa_cons (pv 1) pa_nil))))) (pss_one (ps_if (pt_cmpR op_eq (pv 2) pe_int (nomark _)) (pss_one (ps_set (i := 6) sc_law_inside.nd rfl (Or.inl rfl) (pe_c c_law_loose hr (by omega) rfl (pa_cons (pv 5) (pa_cons (pv 1) pa_nil))))) (pss_one (ps_set (i := 6) sc_law_inside.nd rfl (Or.inl rfl) (pe_c c_law_added hr (by omega) rfl (pa_cons (pv 5) (pa_cons (pv 1) (pa_cons (pv 3) pa_nil)))))))))
  (pss_one (ps_if (pt_cmpR (op_neD hr.units) (pv 6) (pe_lst pa_nil) (nomark _)) (pss_one (ps_ret (pe_lst (pa_cons (pe_c c_law_group hr (by omega) rfl (pa_cons (pe_op op_cat (pe_op op_cat (pe_callTy call_list_of (by rfl) (n_list T) (by decide +kernel) (pa_cons (pe_slice sl_tupA (pe_ix ix_tup (pv 0) pe_int (fun _ _ => rfl)) po_none (po_some (pv 4))) pa_nil)) (pv 6)) (pe_callTy call_list_of (by rfl) (n_list T) (by decide +kernel) (pa_cons (pe_slice sl_tupA (pe_ix ix_tup (pv 0) pe_int (fun _ _ => rfl)) (po_some (pe_op op_add (pv 4) pe_int)) po_none) pa_nil))) pa_nil)) pa_nil)))) pss_nil)))))
  (pss_one (ps_ret (pe_lst pa_nil)))), ?_⟩
    have hA := A0
    obtain ⟨hR, hh, hg, hn, hl, hT, hw, hok⟩ := A0
    cases hR with
    | @grp a q us ps ha hq hps =>
    have h2 : 2 ≤ ps.length := hg.1
    have hl2 : lvL ps < 30 := hl
    have hle := len_lv hg.2
    have hus := hps.length
    refine ⟨_, rfl, a, _, 1, .ref q, rfl, rfl, SqT.of ha, rfl, q, us, rfl, .inr (SqT.of hq), ?_⟩
    refine ⟨_, rfl, by omega, by rw [hus]; omega, ?_⟩
    have ej : ((us.length : Nat) : Int).toNat = us.length := rfl
    rw [ej]
    refine for_range (fun i σ H' => ∃ (p4 p5 p6 : Option V), σ = [some (.ref a), some (.ref wl), some (.int so), some x, p4, p5, p6] ∧ Stp (TB K) [] H H' ∧ (so = 2 → ∀ u ∈ nodesL (ps.take i), u.under ≠ ws))
      ⟨none, none, none, rfl, .refl, fun _ u m => by simp [nodesL] at m⟩ ?_ ?_
    · rintro i σ H1 hi ⟨p4, p5, p6, rfl, e1, hno⟩
      rw [Int.zero_add]
      obtain ⟨y, hy⟩ : ∃ y, us[i]? = some y := ⟨us[i], by simp [hi]⟩
      obtain ⟨t, ht, rt⟩ := hps.get hy
      have hm := List.mem_of_getElem? ht
      have A1 := (hA.step e1).sub hm (rt.tup (e1.tup lsts_nil))
      refine ⟨_, rfl, a, _, 1, .ref q, rfl, rfl, SqT.of (e1.get0 ha trivial), rfl, _, rfl, q, us, _, y, rfl, rfl, SqT.of (e1.get0 hq trivial), atI_nat hy, ?_⟩
      rcases hs with ⟨rfl, rfl⟩ | ⟨rfl, rfl⟩ | ⟨rfl, nm, fr, rfl, hnm, rx⟩
      · refine ⟨_, rfl, rfl, _, rfl, ?_⟩
        refine iteT ?_
        refine ⟨_, rfl, _, rfl, y, t, wl, ws, rfl, A1, fun l fs ts H2 e2 nl h2' r2 g2 => ?_⟩
        have gm : (0 : Int) = 2 → (∃ u ∈ t.nodes, u.under = ws) → ts ≠ [] := fun z => absurd z (by decide)
        have gr : Res [] t ts := g2
        all_goals (
          refine ⟨_, rfl, (by decide : 0 ≤ sizeLine), fun pn hpn => ?_⟩
          have e3 : Stp (TB K) [] H1 (upd H2 pn (.lst [])) := e2.alloc hpn
          have h3 : (upd H2 pn (.lst [])) l = some (.lst fs) := by rw [upd_ne (ne_of_none h2' hpn)]; exact h2'
          have r3 := r2.tup (Tup.new (o := .lst []) hpn)
          have gg : goodL ts ∧ hgtL ts < 30 := res_few gr A1.l A1.g (by simp)
          refine ⟨.list (dataL ts), .list [], rts_ne h3 r3, .lst (SqL.of upd_same) .nil, shaped_trs gg.1 gg.2, by decide +kernel, ?_⟩
          refine ⟨_, rfl, ?_⟩
          rw [eqv_nil]
          by_cases hne : ts = []
          · rw [decide_eq_true hne]
            refine iteF ?_
            refine ⟨_, _, _, rfl, e1.trans e3, fun z2 u m => ?_⟩
            rw [nodesL_snoc ht] at m
            rcases List.mem_append.mp m with m | m
            · exact hno z2 u m
            · exact fun eu => gm z2 ⟨u, m, eu⟩ hne
          · rw [decide_eq_false hne]
            refine iteT ?_
            obtain ⟨t', rfl, g', n', p'⟩ := gr.resolve_left hne
            have R := rep_mk (R := [t']) ht hg.2 hg.1 hn.2 ⟨g', trivial⟩ ⟨n', trivial⟩ (Nat.le_refl 1) (und1 p')
            have hRl := R.lv
            have hq3 := (e1.trans e3).get0 hq trivial
            have hps3 := hps.tup ((e1.trans e3).tup lsts_nil)
            have ha3 := (e1.trans e3).get0 ha trivial
            refine ⟨_, rfl, a, _, 1, .ref q, rfl, rfl, SqT.of ha3, rfl, _, rfl, _, rfl, ?_⟩
            refine slA_pre (K := K) (T := TB K) (k := i) hq3 fun p5 H5 e5 h5 => ?_
            refine ⟨p5, _, rfl, .inr (SqT.of h5), fun p6 hp6 => ?_⟩
            have e6 := e5.alloc (o := .lst (us.take i)) hp6
            refine ⟨_, rfl, p6, l, _, _, rfl, rfl, upd_same, e6.get0 h3 trivial, ?_, fun p7 hp7 => ?_⟩
            · rw [List.length_take, r2.length, zL]
              have : [t'].length = 1 := rfl
              omega
            have e7 := e6.alloc (o := .lst (us.take i ++ fs)) hp7
            refine ⟨_, rfl, a, _, 1, .ref q, rfl, rfl, SqT.of (e7.get0 ha3 trivial), rfl, _, rfl, _, _, rfl, rfl, _, rfl, ?_⟩
            dsimp only [tNoPart]
            refine slA_suf (K := K) (T := TB K) (k := i + 1) (z := (i : Int) + 1) rfl (e7.get0 hq3 trivial) fun p8 H8 e8 h8 => ?_
            refine ⟨p8, _, rfl, .inr (SqT.of h8), fun p9 hp9 => ?_⟩
            have e9 := e8.alloc (o := .lst (us.drop (i + 1))) hp9
            refine ⟨p7, p9, _, _, rfl, rfl, e9.get0 upd_same trivial, upd_same, ?_, fun p10 hp10 => ?_⟩
            · rw [List.length_append, List.length_take, List.length_drop, r2.length, zL]
              have : [t'].length = 1 := rfl
              omega
            have e10 := ((e7.trans e9).alloc (o := .lst (us.take i ++ fs ++ us.drop (i + 1))) hp10)
            have rr := ((hps3.take i).append r3).append (hps3.drop (i + 1))
            have gl := hgtL_lv R.good
            have kl := R.len
            have exl : lvL (ps.take i ++ [t'] ++ ps.drop (i + 1)) ≤ 1 + lvL ps := by rw [hRl]; simp
            refine ⟨_, _, rfl, ⟨p10, _, rfl, upd_same, rr.tup (e10.tup lsts_nil)⟩, ?_, R.good, ?_, (e1.trans (e3.trans e10)).tabs hT, fun v' H11 r11 e11 => ?_⟩
            · omega
            · omega
            exact grp_end k (e1.trans (e3.trans e10)) e11 r11 ⟨R.res, fun _ _ => by simp⟩)
      · refine ⟨_, rfl, rfl, _, rfl, ?_⟩
        refine iteF ?_
        refine ⟨_, rfl, rfl, _, rfl, ?_⟩
        refine iteT ?_
        refine ⟨_, rfl, _, rfl, y, t, wl, ws, rfl, A1, fun l fs ts H2 e2 nl h2' r2 g2 => ?_⟩
        have gm : (1 : Int) = 2 → (∃ u ∈ t.nodes, u.under = ws) → ts ≠ [] := fun z => absurd z (by decide)
        have gr : Res [] t ts := g2
        all_goals (
          refine ⟨_, rfl, (by decide : 0 ≤ sizeLine), fun pn hpn => ?_⟩
          have e3 : Stp (TB K) [] H1 (upd H2 pn (.lst [])) := e2.alloc hpn
          have h3 : (upd H2 pn (.lst [])) l = some (.lst fs) := by rw [upd_ne (ne_of_none h2' hpn)]; exact h2'
          have r3 := r2.tup (Tup.new (o := .lst []) hpn)
          have gg : goodL ts ∧ hgtL ts < 30 := res_few gr A1.l A1.g (by simp)
          refine ⟨.list (dataL ts), .list [], rts_ne h3 r3, .lst (SqL.of upd_same) .nil, shaped_trs gg.1 gg.2, by decide +kernel, ?_⟩
          refine ⟨_, rfl, ?_⟩
          rw [eqv_nil]
          by_cases hne : ts = []
          · rw [decide_eq_true hne]
            refine iteF ?_
            refine ⟨_, _, _, rfl, e1.trans e3, fun z2 u m => ?_⟩
            rw [nodesL_snoc ht] at m
            rcases List.mem_append.mp m with m | m
            · exact hno z2 u m
            · exact fun eu => gm z2 ⟨u, m, eu⟩ hne
          · rw [decide_eq_false hne]
            refine iteT ?_
            obtain ⟨t', rfl, g', n', p'⟩ := gr.resolve_left hne
            have R := rep_mk (R := [t']) ht hg.2 hg.1 hn.2 ⟨g', trivial⟩ ⟨n', trivial⟩ (Nat.le_refl 1) (und1 p')
            have hRl := R.lv
            have hq3 := (e1.trans e3).get0 hq trivial
            have hps3 := hps.tup ((e1.trans e3).tup lsts_nil)
            have ha3 := (e1.trans e3).get0 ha trivial
            refine ⟨_, rfl, a, _, 1, .ref q, rfl, rfl, SqT.of ha3, rfl, _, rfl, _, rfl, ?_⟩
            refine slA_pre (K := K) (T := TB K) (k := i) hq3 fun p5 H5 e5 h5 => ?_
            refine ⟨p5, _, rfl, .inr (SqT.of h5), fun p6 hp6 => ?_⟩
            have e6 := e5.alloc (o := .lst (us.take i)) hp6
            refine ⟨_, rfl, p6, l, _, _, rfl, rfl, upd_same, e6.get0 h3 trivial, ?_, fun p7 hp7 => ?_⟩
            · rw [List.length_take, r2.length, zL]
              have : [t'].length = 1 := rfl
              omega
            have e7 := e6.alloc (o := .lst (us.take i ++ fs)) hp7
            refine ⟨_, rfl, a, _, 1, .ref q, rfl, rfl, SqT.of (e7.get0 ha3 trivial), rfl, _, rfl, _, _, rfl, rfl, _, rfl, ?_⟩
            dsimp only [tNoPart]
            refine slA_suf (K := K) (T := TB K) (k := i + 1) (z := (i : Int) + 1) rfl (e7.get0 hq3 trivial) fun p8 H8 e8 h8 => ?_
            refine ⟨p8, _, rfl, .inr (SqT.of h8), fun p9 hp9 => ?_⟩
            have e9 := e8.alloc (o := .lst (us.drop (i + 1))) hp9
            refine ⟨p7, p9, _, _, rfl, rfl, e9.get0 upd_same trivial, upd_same, ?_, fun p10 hp10 => ?_⟩
            · rw [List.length_append, List.length_take, List.length_drop, r2.length, zL]
              have : [t'].length = 1 := rfl
              omega
            have e10 := ((e7.trans e9).alloc (o := .lst (us.take i ++ fs ++ us.drop (i + 1))) hp10)
            have rr := ((hps3.take i).append r3).append (hps3.drop (i + 1))
            have gl := hgtL_lv R.good
            have kl := R.len
            have exl : lvL (ps.take i ++ [t'] ++ ps.drop (i + 1)) ≤ 1 + lvL ps := by rw [hRl]; simp
            refine ⟨_, _, rfl, ⟨p10, _, rfl, upd_same, rr.tup (e10.tup lsts_nil)⟩, ?_, R.good, ?_, (e1.trans (e3.trans e10)).tabs hT, fun v' H11 r11 e11 => ?_⟩
            · omega
            · omega
            exact grp_end k (e1.trans (e3.trans e10)) e11 r11 ⟨R.res, fun _ _ => by simp⟩)
      · refine ⟨_, rfl, rfl, _, rfl, ?_⟩
        refine iteF ?_
        refine ⟨_, rfl, rfl, _, rfl, ?_⟩
        refine iteF ?_
        refine ⟨_, rfl, _, rfl, _, rfl, y, t, wl, ws, x, nm, fr, rfl, A1, rx.tup (e1.tup lsts_nil), hnm, fun l fs ts H2 e2 nl h2' r2 g2 => ?_⟩
        have gm : (2 : Int) = 2 → (∃ u ∈ t.nodes, u.under = ws) → ts ≠ [] := fun _ => g2.2
        have gr : Res [nm] t ts := g2.1
        all_goals (
          refine ⟨_, rfl, (by decide : 0 ≤ sizeLine), fun pn hpn => ?_⟩
          have e3 : Stp (TB K) [] H1 (upd H2 pn (.lst [])) := e2.alloc hpn
          have h3 : (upd H2 pn (.lst [])) l = some (.lst fs) := by rw [upd_ne (ne_of_none h2' hpn)]; exact h2'
          have r3 := r2.tup (Tup.new (o := .lst []) hpn)
          have gg : goodL ts ∧ hgtL ts < 30 := res_few gr A1.l A1.g (by simp)
          refine ⟨.list (dataL ts), .list [], rts_ne h3 r3, .lst (SqL.of upd_same) .nil, shaped_trs gg.1 gg.2, by decide +kernel, ?_⟩
          refine ⟨_, rfl, ?_⟩
          rw [eqv_nil]
          by_cases hne : ts = []
          · rw [decide_eq_true hne]
            refine iteF ?_
            refine ⟨_, _, _, rfl, e1.trans e3, fun z2 u m => ?_⟩
            rw [nodesL_snoc ht] at m
            rcases List.mem_append.mp m with m | m
            · exact hno z2 u m
            · exact fun eu => gm z2 ⟨u, m, eu⟩ hne
          · rw [decide_eq_false hne]
            refine iteT ?_
            obtain ⟨t', rfl, g', n', p'⟩ := gr.resolve_left hne
            have R := rep_mk (R := [t']) ht hg.2 hg.1 hn.2 ⟨g', trivial⟩ ⟨n', trivial⟩ (Nat.le_refl 1) (und1 p')
            have hRl := R.lv
            have hq3 := (e1.trans e3).get0 hq trivial
            have hps3 := hps.tup ((e1.trans e3).tup lsts_nil)
            have ha3 := (e1.trans e3).get0 ha trivial
            refine ⟨_, rfl, a, _, 1, .ref q, rfl, rfl, SqT.of ha3, rfl, _, rfl, _, rfl, ?_⟩
            refine slA_pre (K := K) (T := TB K) (k := i) hq3 fun p5 H5 e5 h5 => ?_
            refine ⟨p5, _, rfl, .inr (SqT.of h5), fun p6 hp6 => ?_⟩
            have e6 := e5.alloc (o := .lst (us.take i)) hp6
            refine ⟨_, rfl, p6, l, _, _, rfl, rfl, upd_same, e6.get0 h3 trivial, ?_, fun p7 hp7 => ?_⟩
            · rw [List.length_take, r2.length, zL]
              have : [t'].length = 1 := rfl
              omega
            have e7 := e6.alloc (o := .lst (us.take i ++ fs)) hp7
            refine ⟨_, rfl, a, _, 1, .ref q, rfl, rfl, SqT.of (e7.get0 ha3 trivial), rfl, _, rfl, _, _, rfl, rfl, _, rfl, ?_⟩
            dsimp only [tNoPart]
            refine slA_suf (K := K) (T := TB K) (k := i + 1) (z := (i : Int) + 1) rfl (e7.get0 hq3 trivial) fun p8 H8 e8 h8 => ?_
            refine ⟨p8, _, rfl, .inr (SqT.of h8), fun p9 hp9 => ?_⟩
            have e9 := e8.alloc (o := .lst (us.drop (i + 1))) hp9
            refine ⟨p7, p9, _, _, rfl, rfl, e9.get0 upd_same trivial, upd_same, ?_, fun p10 hp10 => ?_⟩
            · rw [List.length_append, List.length_take, List.length_drop, r2.length, zL]
              have : [t'].length = 1 := rfl
              omega
            have e10 := ((e7.trans e9).alloc (o := .lst (us.take i ++ fs ++ us.drop (i + 1))) hp10)
            have rr := ((hps3.take i).append r3).append (hps3.drop (i + 1))
            have gl := hgtL_lv R.good
            have kl := R.len
            have exl : lvL (ps.take i ++ [t'] ++ ps.drop (i + 1)) ≤ 1 + lvL ps := by rw [hRl]; simp
            refine ⟨_, _, rfl, ⟨p10, _, rfl, upd_same, rr.tup (e10.tup lsts_nil)⟩, ?_, R.good, ?_, (e1.trans (e3.trans e10)).tabs hT, fun v' H11 r11 e11 => ?_⟩
            · omega
            · omega
            exact grp_end k (e1.trans (e3.trans e10)) e11 r11 ⟨R.res, fun _ _ => by simp⟩)
    · rintro σ H1 ⟨p4, p5, p6, rfl, e1, hno⟩
      rw [hus, List.take_length] at hno
      refine ⟨(by decide : 0 ≤ sizeLine), fun p hp => k p [] [] _ (e1.alloc hp) ((Nw.of hp).back e1) upd_same .nil ⟨.inl rfl, fun h2 ⟨u, m, eu⟩ => absurd eu (hno h2 u m)⟩⟩) (g_law_inside T)
end
end K3

namespace K3
open PySem PySem.Spec PyProof.Rows L2 LamX LK LB
section
variable {P : Program} {w : World} {K : PySem.W.Frag} {mg : Str → Option Value} {base : Heap}
theorem cal_loose_of (T : Tx K mg base) {n : Nat} (c_law_inside : Cal P w K mg base (2 * n + 72) "_law_inside" (spI (TB K) n)) : Cal P w K mg base (2 * n + 73) "_law_loose" (spJ (TB K) n) :=
  cal_mk (fn_law_loose T (k := 2 * n + 72) (fun vs H Q E ⟨v, t, wl, ws, e, _⟩ => by rw [e]; rfl) fun A outer s H vs Q E hr h => by
    obtain ⟨v, t, wl, ws, rfl, A0, k⟩ := h
    have c_law_group : Cal P w K mg base 69 "_law_group" (spGroup (TB K)) := cal_group T
    have c_law_under : Cal P w K mg base 64 "_law_under" (spUnder (TB K) 63) := cal_under T 63
    refine ⟨_, (pss_cons (ps_if (pt_cmpR op_ne (pe_ix ix_tup (pv 0) pe_int (fun _ _ => rfl)) pe_str (nomark _)) (pss_one (ps_ret (pe_lst pa_nil))) pss_nil)
  (pss_cons (ps_for PassesOwn.never rfl (pi_range1 (by rfl) (n_range T) (pa_cons (pe_callB call_len_seq (by rfl) (n_len T) (by decide +kernel) (pa_cons (pe_ix ix_tup (pv 0) pe_int (fun _ _ => rfl)) pa_nil)) pa_nil)) (pg_name (i := 2) sc_law_loose.nd rfl (Or.inl rfl)) (pss_cons (ps_set (i := 3) sc_law_loose.nd rfl (Or.inl rfl) (pe_ix ix_tup (pe_ix ix_tup (pv 0) pe_int (fun _ _ => rfl)) (pv 2) (fun _ _ => rfl)))
  (pss_one (ps_if (PW.pt (pw_and (pt_cmpR op_eq (pe_ix ix_tup (pv 3) pe_int (fun _ _ => rfl)) pe_str (nomark _)) (pw_and1 (pt_cmpR (op_eqD hr.units) (pe_c c_law_under hr (by omega) rfl (pa_cons (pv 3) pa_nil)) (pv 1) (nomark _))))) (pss_one (ps_ret (pe_lst (pa_cons (pe_c c_law_group hr (by omega) rfl (pa_cons (pe_op op_cat (pe_op op_cat (pe_callTy call_list_of (by rfl) (n_list T) (by decide +kernel) (pa_cons (pe_slice sl_tupA (pe_ix ix_tup (pv 0) pe_int (fun _ _ => rfl)) po_none (po_some (pv 2))) pa_nil)) (pe_callTy call_list_of (by rfl) (n_list T) (by decide +kernel) (pa_cons (pe_ix ix_tup (pv 3) pe_int (fun _ _ => rfl)) pa_nil))) (pe_callTy call_list_of (by rfl) (n_list T) (by decide +kernel) (pa_cons (pe_slice sl_tupA (pe_ix ix_tup (pv 0) pe_int (fun _ _ => rfl)) (po_some (pe_op op_add (pv 2) pe_int)) po_none) pa_nil))) pa_nil)) pa_nil)))) pss_nil))))
  (pss_one (ps_ret (pe_c c_law_inside hr (by omega) rfl (pa_cons (pv 0) (pa_cons (pv 1) (pa_cons pe_int (pa_cons (pe_tup (pa_cons pe_str (pa_cons pe_bl pa_nil))) pa_nil))))))))), ?_⟩
    have hA := A0
    obtain ⟨hR, hh, hg, hn, hl, hT, hw, hok⟩ := A0
    cases hR with
    | @leaf a nm fr ha =>
      have hne : (decide (V.str nm = V.str "")) = false := decide_eq_false (fun e => isNm_ne hg (by injection e))
      refine ⟨_, rfl, a, _, 0, .str nm, rfl, rfl, SqT.of ha, rfl, rfl, _, rfl, ?_⟩
      rw [hne]
      refine iteT ?_
      exact ⟨(by decide : 0 ≤ sizeLine), fun p hp => k p [] [] _ (.new hp) (.of hp) upd_same .nil (.inl rfl)⟩
    | @grp a q us ps ha hq hps =>
    have h2 : 2 ≤ ps.length := hg.1
    have hl2 : lvL ps < 30 := hl
    have hle := len_lv hg.2
    have hus := hps.length
    refine ⟨_, rfl, a, _, 0, .str "", rfl, rfl, SqT.of ha, rfl, rfl, _, rfl, ?_⟩
    refine iteF ?_
    refine ⟨_, rfl, a, _, 1, .ref q, rfl, rfl, SqT.of ha, rfl, q, us, rfl, .inr (SqT.of hq), ?_⟩
    refine ⟨_, rfl, by omega, by rw [hus]; omega, ?_⟩
    have ej : ((us.length : Nat) : Int).toNat = us.length := rfl
    rw [ej]
    refine for_range (fun i σ H' => ∃ (p4 p5 : Option V), σ = [some (.ref a), some (.ref wl), p4, p5] ∧ Stp (TB K) [] H H')
      ⟨none, none, rfl, .refl⟩ ?_ ?_
    · rintro i σ H1 hi ⟨p4, p5, rfl, e1⟩
      rw [Int.zero_add]
      obtain ⟨y, hy⟩ : ∃ y, us[i]? = some y := ⟨us[i], by simp [hi]⟩
      obtain ⟨t, ht, rt⟩ := hps.get hy
      have hm := List.mem_of_getElem? ht
      have rt1 := rt.tup (e1.tup lsts_nil)
      have gt := goodL_mem.mp hg.2 t hm
      have nt := normL_mem.mp hn.2 t hm
      have lt := lvL_mem hm
      have tt := hgt_lv gt
      refine ⟨_, rfl, a, _, 1, .ref q, rfl, rfl, SqT.of (e1.get0 ha trivial), rfl, _, rfl, q, us, _, y, rfl, rfl, SqT.of (e1.get0 hq trivial), atI_nat hy, ?_⟩
      cases rt1 with
      | @leaf b nm fr hb =>
        have hne : (decide (V.str nm = V.str "")) = false := decide_eq_false (fun e => isNm_ne gt (by injection e))
        refine ⟨_, rfl, b, _, 0, .str nm, rfl, rfl, SqT.of hb, rfl, rfl, _, rfl, ?_⟩
        rw [hne]
        refine iteF ?_
        refine iteF ?_
        exact ⟨_, _, rfl, e1⟩
      | @grp b r zs qs hb hr2 hqs =>
        refine ⟨_, rfl, b, _, 0, .str "", rfl, rfl, SqT.of hb, rfl, rfl, _, rfl, ?_⟩
        refine iteT ?_
        refine ⟨_, rfl, _, .grp qs, rfl, .grp hb hr2 hqs, by omega, gt, by omega, fun p H2 np e2 h2' => ?_⟩
        refine ⟨_, rfl, .list ((Tr.grp qs).under.map PyData.str), .list (ws.map PyData.str), dp_strs h2', dp_strs ((e1.trans e2).get0 hw trivial), shaped_strs (under_ok gt), shaped_strs hok, ?_⟩
        refine ⟨_, rfl, ?_⟩
        have ee : PyData.eqv (.list ((Tr.grp qs).under.map PyData.str)) (.list (ws.map PyData.str)) = decide ((Tr.grp qs).under = ws) := eqv_strs
        rw [ee]
        by_cases hw2 : (Tr.grp qs).under = ws
        · rw [decide_eq_true hw2]
          refine iteT ?_
          have R := rep_mk (R := qs) (ex := []) ht hg.2 hg.1 hn.2 gt.2 nt.2 (Nat.le_of_lt gt.1) (by rw [List.nil_append]; exact (sortS_perm _).symm)
          have hRl := R.lv
          have hq3 := (e1.trans e2).get0 hq trivial
          have hps3 := hps.tup ((e1.trans e2).tup lsts_nil)
          have ha3 := (e1.trans e2).get0 ha trivial
          have hr3 := e2.get0 hr2 trivial
          have hqs3 := hqs.tup (e2.tup lsts_nil)
          have hb3 := e2.get0 hb trivial
          have lq : qs.length ≤ lvL qs := len_lv gt.2
          have lq2 : lvL qs ≤ lvL ps := lt
          refine ⟨_, rfl, a, _, 1, .ref q, rfl, rfl, SqT.of ha3, rfl, _, rfl, _, rfl, ?_⟩
          refine slA_pre (K := K) (T := TB K) (k := i) hq3 fun p5 H5 e5 h5 => ?_
          refine ⟨p5, _, rfl, .inr (SqT.of h5), fun p6 hp6 => ?_⟩
          have e6 := e5.alloc (o := .lst (us.take i)) hp6
          refine ⟨_, rfl, b, _, 1, .ref r, rfl, rfl, SqT.of (e6.get0 hb3 trivial), rfl, ?_⟩
          refine ⟨r, zs, rfl, .inr (SqT.of (e6.get0 hr3 trivial)), fun p66 hp66 => ?_⟩
          have e66 : Stp (TB K) [] (upd H5 p6 (.lst (us.take i))) _ := .new (o := .lst zs) hp66
          refine ⟨p6, p66, _, _, rfl, rfl, e66.get0 upd_same trivial, upd_same, ?_, fun p7 hp7 => ?_⟩
          · rw [List.length_take, hqs.length, zL]
            omega
          have e7 := (e6.trans e66).alloc (o := .lst (us.take i ++ zs)) hp7
          refine ⟨_, rfl, a, _, 1, .ref q, rfl, rfl, SqT.of (e7.get0 ha3 trivial), rfl, _, rfl, _, _, rfl, rfl, _, rfl, ?_⟩
          dsimp only [tNoPart]
          refine slA_suf (K := K) (T := TB K) (k := i + 1) (z := (i : Int) + 1) rfl (e7.get0 hq3 trivial) fun p8 H8 e8 h8 => ?_
          refine ⟨p8, _, rfl, .inr (SqT.of h8), fun p9 hp9 => ?_⟩
          have e9 := e8.alloc (o := .lst (us.drop (i + 1))) hp9
          refine ⟨p7, p9, _, _, rfl, rfl, e9.get0 upd_same trivial, upd_same, ?_, fun p10 hp10 => ?_⟩
          · rw [List.length_append, List.length_take, List.length_drop, hqs.length, zL]
            omega
          have e10 := ((e7.trans e9).alloc (o := .lst (us.take i ++ zs ++ us.drop (i + 1))) hp10)
          have rr := ((hps3.take i).append hqs3).append (hps3.drop (i + 1))
          have gl := hgtL_lv R.good
          have kl := R.len
          have exl : lvL (ps.take i ++ qs ++ ps.drop (i + 1)) ≤ lvL ps := by rw [hRl]; simp
          refine ⟨_, _, rfl, ⟨p10, _, rfl, upd_same, rr.tup (e10.tup lsts_nil)⟩, ?_, R.good, ?_, (e1.trans (e2.trans e10)).tabs hT, fun v' H11 r11 e11 => ?_⟩
          · omega
          · omega
          exact grp_end k (e1.trans (e2.trans e10)) e11 r11 R.res
        · rw [decide_eq_false hw2]
          refine iteF ?_
          exact ⟨_, _, rfl, e1.trans e2⟩
    · rintro σ H1 ⟨p4, p5, rfl, e1⟩
      refine ⟨_, rfl, _, rfl, (by decide : 2 ≤ sizeLine), fun p hp => ?_⟩
      have e2 : Stp (TB K) [] H _ := e1.alloc (o := .tup [.str "", .bl true]) hp
      exact ⟨_, ps, wl, ws, _, 1, [], rfl, hA.step e2, .inr (.inl ⟨rfl, rfl⟩), fun l fs ts H3 e3 nl h3 r3 g3 => k l fs ts H3 (e2.trans e3) (nl.back e2) h3 r3 g3.1⟩) (g_law_loose T)

theorem cal_added_of (T : Tx K mg base) {n : Nat} (c_law_inside : Cal P w K mg base (2 * n + 72) "_law_inside" (spI (TB K) n)) : Cal P w K mg base (2 * n + 73) "_law_added" (spA (TB K) n) :=
  cal_mk (fn_law_added T (k := 2 * n + 72) (fun vs H Q E ⟨v, t, wl, ws, x, nm, fr, e, _⟩ => by rw [e]; rfl) fun A outer s H vs Q E hr h => by
    obtain ⟨v, t, wl, ws, x, nm, fr, rfl, hA, rx, hnm, k⟩ := h
    have c_law_group : Cal P w K mg base 69 "_law_group" (spGroup (TB K)) := cal_group T
    have c_law_under : Cal P w K mg base 64 "_law_under" (spUnder (TB K) 63) := cal_under T 63
    refine ⟨_, (pss_cons (ps_if (pt_cmpR (op_eqD hr.units) (pe_c c_law_under hr (by omega) rfl (pa_cons (pv 0) pa_nil)) (pv 1) (nomark _)) (pss_one (ps_ret (pe_ifExp (pt_cmpR op_ne (pe_ix ix_tup (pv 0) pe_int (fun _ _ => rfl)) pe_str (nomark _)) (pe_lst (pa_cons (pe_c c_law_group hr (by omega) rfl (pa_cons (pe_lst (pa_cons (pv 0) (pa_cons (pv 2) pa_nil))) pa_nil)) pa_nil)) (pe_lst (pa_cons (pe_c c_law_group hr (by omega) rfl (pa_cons (pe_op op_cat (pe_callTy call_list_of (by rfl) (n_list T) (by decide +kernel) (pa_cons (pe_ix ix_tup (pv 0) pe_int (fun _ _ => rfl)) pa_nil)) (pe_lst (pa_cons (pv 2) pa_nil))) pa_nil)) pa_nil))))) pss_nil)
  (pss_cons (ps_if (pt_cmpR op_ne (pe_ix ix_tup (pv 0) pe_int (fun _ _ => rfl)) pe_str (nomark _)) (pss_one (ps_ret (pe_lst pa_nil))) pss_nil)
  (pss_one (ps_ret (pe_c c_law_inside hr (by omega) rfl (pa_cons (pv 0) (pa_cons (pv 1) (pa_cons pe_int (pa_cons (pv 2) pa_nil))))))))), ?_⟩
    have hh2 := hgt_lv hA.g
    have hl := hA.l
    refine ⟨_, rfl, v, t, rfl, hA.r, by omega, hA.g, by omega, fun p H1 np e1 h1 => ?_⟩
    refine ⟨_, rfl, .list (t.under.map PyData.str), .list (ws.map PyData.str), dp_strs h1, dp_strs (e1.get0 hA.w trivial), shaped_strs (under_ok hA.g), shaped_strs hA.ok, ?_⟩
    refine ⟨_, rfl, ?_⟩
    have ee : PyData.eqv (.list (t.under.map PyData.str)) (.list (ws.map PyData.str)) = decide (t.under = ws) := eqv_strs
    rw [ee]
    have A1 := hA.step e1
    have rx1 := rx.tup (e1.tup lsts_nil)
    have gx : goodL [Tr.leaf nm fr] := ⟨hnm, trivial⟩
    have nx : normL [Tr.leaf nm fr] := ⟨trivial, trivial⟩
    obtain ⟨hR, hh, hg, hn, hl, hT, hw, hok⟩ := A1
    by_cases hw2 : t.under = ws
    · rw [decide_eq_true hw2]
      refine iteT ?_
      cases hR with
      | @leaf a nm2 fr2 ha =>
        have hne : (decide (V.str nm2 = V.str "")) = false := decide_eq_false (fun e => isNm_ne hg (by injection e))
        refine ⟨_, rfl, a, _, 0, .str nm2, rfl, rfl, SqT.of ha, rfl, rfl, _, rfl, ?_⟩
        rw [hne]
        refine iteT ?_
        refine ⟨_, rfl, _, rfl, (by decide : 2 ≤ sizeLine), fun p2 hp2 => ?_⟩
        have e2 : Stp (TB K) [] H1 _ := .new (o := .lst [.ref a, x]) hp2
        have gL : goodL [Tr.leaf nm2 fr2, Tr.leaf nm fr] := ⟨hg, gx⟩
        refine ⟨_, [Tr.leaf nm2 fr2, Tr.leaf nm fr], rfl, ⟨p2, _, rfl, upd_same, .cons (.leaf (e2.get0 ha trivial)) (.cons (rx1.tup (e2.tup lsts_nil)) .nil)⟩, (by decide : (0 : Nat) < 63), gL, (by decide : 1 + (1 + 0) < 64), e2.tabs hT, fun v' H3 r3 e3 => ?_⟩
        refine grp_end k (e1.trans e2) e3 r3 ⟨.inr ⟨_, rfl, group_good gL (by simp), group_norm ⟨trivial, nx⟩, ?_⟩, fun _ => by simp⟩
        rw [group_under]
        refine (sortS_perm _).trans ?_
        show ([nm2, nm] : List Str).Perm [nm, nm2]
        exact .swap _ _ _
      | @grp a q us ps ha hq hps =>
        refine ⟨_, rfl, a, _, 0, .str "", rfl, rfl, SqT.of ha, rfl, rfl, _, rfl, ?_⟩
        refine iteF ?_
        refine ⟨_, rfl, a, _, 1, .ref q, rfl, rfl, SqT.of ha, rfl, q, us, rfl, .inr (SqT.of hq), fun p2 hp2 => ?_⟩
        have e2 : Stp (TB K) [] H1 _ := .new (o := .lst us) hp2
        refine ⟨_, rfl, (by decide : 1 ≤ sizeLine), fun p3 hp3 => ?_⟩
        have e3 : Stp (TB K) [] (upd H1 p2 (.lst us)) _ := .new (o := .lst [x]) hp3
        have hl2 : lvL ps < 30 := hl
        have h22 : 2 ≤ ps.length := hg.1
        have hle := len_lv hg.2
        refine ⟨p2, p3, _, _, rfl, rfl, e3.get0 upd_same trivial, upd_same, ?_, fun p4 hp4 => ?_⟩
        · rw [hps.length, zL]
          simp only [List.length_cons, List.length_nil]
          omega
        have e4 := (e2.trans e3).alloc (o := .lst (us ++ [x])) hp4
        have gL : goodL (ps ++ [Tr.leaf nm fr]) := goodL_append.mpr ⟨hg.2, gx⟩
        have nL : normL (ps ++ [Tr.leaf nm fr]) := normL_append.mpr ⟨hn.2, nx⟩
        have vL : lvL (ps ++ [Tr.leaf nm fr]) = lvL ps + 1 := by
          rw [lvL_append]
          rfl
        have gl := hgtL_lv gL
        have le2 : (ps ++ [Tr.leaf nm fr]).length = ps.length + 1 := by simp
        refine ⟨_, ps ++ [Tr.leaf nm fr], rfl, ⟨p4, _, rfl, upd_same, (hps.tup (e4.tup lsts_nil)).append (.cons (rx1.tup (e4.tup lsts_nil)) .nil)⟩, by omega, gL, by omega, e4.tabs hT, fun v' H3 r3 e5 => ?_⟩
        refine grp_end k (e1.trans e4) e5 r3 ⟨.inr ⟨_, rfl, group_good gL (by omega), group_norm nL, ?_⟩, fun _ => by simp⟩
        rw [group_under, underL_append]
        refine (sortS_perm _).trans (List.perm_append_comm.trans ?_)
        exact List.Perm.append_left [nm] (sortS_perm _).symm
    · rw [decide_eq_false hw2]
      refine iteF ?_
      cases hR with
      | @leaf a nm2 fr2 ha =>
        have hne : (decide (V.str nm2 = V.str "")) = false := decide_eq_false (fun e => isNm_ne hg (by injection e))
        refine ⟨_, rfl, a, _, 0, .str nm2, rfl, rfl, SqT.of ha, rfl, rfl, _, rfl, ?_⟩
        rw [hne]
        refine iteT ?_
        refine ⟨(by decide : 0 ≤ sizeLine), fun p hp => k p [] [] _ (e1.alloc hp) ((Nw.of hp).back e1) upd_same .nil ⟨.inl rfl, ?_⟩⟩
        rintro ⟨u, m, eu⟩
        rw [List.mem_singleton.mp m] at eu
        exact absurd eu hw2
      | @grp a q us ps ha hq hps =>
        refine ⟨_, rfl, a, _, 0, .str "", rfl, rfl, SqT.of ha, rfl, rfl, _, rfl, ?_⟩
        refine iteF ?_
        refine ⟨_, rfl, _, rfl, _, rfl, _, ps, wl, ws, _, 2, [nm], rfl, hA.step e1, .inr (.inr ⟨rfl, nm, fr, rfl, hnm, rx1⟩), fun l fs ts H3 e3 nl h3 r3 g3 => k l fs ts H3 (e1.trans e3) (nl.back e1) h3 r3 ⟨g3.1, ?_⟩⟩
        rintro ⟨u, m, eu⟩
        rcases List.mem_cons.mp m with rfl | m
        · exact absurd eu hw2
        · exact g3.2 rfl ⟨u, m, eu⟩) (g_law_added T)
end
end K3

namespace K3
open PySem PySem.Spec PyProof.Rows L2 LamX LK LB
section
variable {P : Program} {w : World} {K : PySem.W.Frag} {mg : Str → Option Value} {base : Heap}
def inW (ws : List Str) (t : Tr) : Bool := decide ((t.under.filter fun w => !decide (w ∈ ws)) = [])
theorem pi_listK {X : Cx} {K : PySem.W.Frag} {tg l : Expr} {tl : TE} (hK : X.K = K) (hl : PE X l tl) : PI X tg l (iList K tl) := by
  subst hK
  exact pi_list hl
def tInner (K : PySem.W.Frag) : TT := tTest (tOp (rEqD K) (tLc (iList K (tCall (spUnder (TB K) 63) [] L2.E0 (tCons (tVar 4) tNil))) (gName 5) (tTest (tOp (rIn K true) (tVar 5) (tVar 1))) (tVar 5) [5]) (tLst tNil))
theorem cal_joined_of (T : Tx K mg base) {n : Nat} (c_law_inside : Cal P w K mg base (2 * n + 72) "_law_inside" (spI (TB K) n)) : Cal P w K mg base (2 * n + 73) "_law_joined" (spJ (TB K) n) :=
  cal_mk (fn_law_joined T (k := 2 * n + 72) (fun vs H Q E ⟨v, t, wl, ws, e, _⟩ => by rw [e]; rfl) fun A outer s H vs Q E hr h => by
    obtain ⟨v, t, wl, ws, rfl, A0, k⟩ := h
    have c_law_group : Cal P w K mg base 69 "_law_group" (spGroup (TB K)) := cal_group T
    have c_law_under : Cal P w K mg base 64 "_law_under" (spUnder (TB K) 63) := cal_under T 63
    have hu65 := hu65 hr
    refine ⟨_, (pss_cons (ps_if (pt_cmpR op_ne (pe_ix ix_tup (pv 0) pe_int (fun _ _ => rfl)) pe_str (nomark _)) (pss_one (ps_ret (pe_lst pa_nil))) pss_nil)
  (pss_cons (ps_set (i := 2) sc_law_joined.nd rfl (Or.inr rfl) (pe_lc (own := [("part", 4)]) (g := gName 4) (tt := tInner K) rfl sc_law_joined.nd (pi_tup (pe_ix ix_tup (pv 0) pe_int (fun _ _ => rfl))) (blkOk_by (own := [("part", 4)]) (N := N_law_joined) (sc := defScope s_law_joined) (by decide +kernel)) (fun _ _ _ _ _ => (pg_name (i := 4) sc_law_joined.nd rfl (Or.inl rfl))) (fun _ _ _ _ _ => pts_one (pt_cmpR (r := rEqD K) (op_eqD hr.units) (pe_lc (own := [("word", 5)]) (g := gName 5) rfl sc_law_joined.nd (pi_listK (K := K) rfl (pe_c c_law_under hr (by omega) rfl (pa_cons (pv 4) pa_nil))) (blkOk_by (own := [("word", 5)]) (N := N_law_joined) (sc := { kind := .function, names := [(".0", .local), ("part", .local), ("_law_under", .globalImplicit), ("words", .cell)], isGenerator := false, isCoroutine := false }) (by decide +kernel)) (fun _ _ _ _ _ => (pg_name (i := 5) sc_law_joined.nd rfl (Or.inl rfl))) (fun _ _ _ _ _ => pts_one (pt_cmpR (r := rIn K true) op_notIn_seq (pv 5) (pv 1) (by rfl))) (fun _ _ _ _ _ => (pv 5))) (pe_lst pa_nil) (nomark _))) (fun _ _ _ _ _ => (pv 4))))
  (pss_cons (ps_set (i := 3) sc_law_joined.nd rfl (Or.inl rfl) (pe_lst pa_nil))
  (pss_cons (ps_for PassesOwn.never rfl (pi_list (pv 2)) (pg_name (i := 4) sc_law_joined.nd rfl (Or.inl rfl)) (pss_one (ps_set (i := 3) sc_law_joined.nd rfl (Or.inl rfl) (pe_op op_cat (pv 3) (pe_c c_law_under hr (by omega) rfl (pa_cons (pv 4) pa_nil))))))
  (pss_cons (ps_if (PW.pt (pw_and (pt_cmpR op_gt (pe_callB call_len_seq (by rfl) (n_len T) (by decide +kernel) (pa_cons (pv 2) pa_nil)) pe_int (nomark _)) (pw_and (pt_cmpR op_lt (pe_callB call_len_seq (by rfl) (n_len T) (by decide +kernel) (pa_cons (pv 2) pa_nil)) (pe_callB call_len_seq (by rfl) (n_len T) (by decide +kernel) (pa_cons (pe_ix ix_tup (pv 0) pe_int (fun _ _ => rfl)) pa_nil)) (nomark _)) (pw_and1 (pt_cmpR (op_eqD hr.units) (pe_callB cr_sortedS (by rfl) (n_sorted T) (by decide +kernel) (pa_cons (pv 3) pa_nil)) (pv 1) (nomark _)))))) (pss_one (ps_ret (pe_lst (pa_cons (pe_c c_law_group hr (by omega) rfl (pa_cons (pe_op op_cat (pe_lc (own := [("part", 4)]) (g := gName 4) rfl sc_law_joined.nd (pi_tup (pe_ix ix_tup (pv 0) pe_int (fun _ _ => rfl))) (blkOk_by (own := [("part", 4)]) (N := N_law_joined) (sc := defScope s_law_joined) (by decide +kernel)) (fun _ _ _ _ _ => (pg_name (i := 4) sc_law_joined.nd rfl (Or.inl rfl))) (fun _ _ _ _ _ => pts_one (pt_cmpR (r := rNotInD K) (op_notInD hu65) (pv 4) (pv 2) (by rfl))) (fun _ _ _ _ _ => (pv 4))) (pe_lst (pa_cons (pe_c c_law_group hr (by omega) rfl (pa_cons (pv 2) pa_nil)) pa_nil))) pa_nil)) pa_nil)))) pss_nil)
  (pss_one (ps_ret (pe_c c_law_inside hr (by omega) rfl (pa_cons (pv 0) (pa_cons (pv 1) (pa_cons pe_int (pa_cons (pe_tup (pa_cons pe_str (pa_cons pe_bl pa_nil))) pa_nil)))))))))))), ?_⟩
    have hA := A0
    obtain ⟨hR, hh, hg, hn, hl, hT, hw, hok⟩ := A0
    cases hR with
    | @leaf a nm fr ha =>
      have hne : (decide (V.str nm = V.str "")) = false := decide_eq_false (fun e => isNm_ne hg (by injection e))
      refine ⟨_, rfl, a, _, 0, .str nm, rfl, rfl, SqT.of ha, rfl, rfl, _, rfl, ?_⟩
      rw [hne]
      refine iteT ?_
      exact ⟨(by decide : 0 ≤ sizeLine), fun p hp => k p [] [] _ (.new hp) (.of hp) upd_same .nil (.inl rfl)⟩
    | @grp a q us ps ha hq hps =>
    have h2 : 2 ≤ ps.length := hg.1
    have hl2 : lvL ps < 30 := hl
    have hle := len_lv hg.2
    have hus := hps.length
    refine ⟨_, rfl, a, _, 0, .str "", rfl, rfl, SqT.of ha, rfl, rfl, _, rfl, ?_⟩
    refine iteF ?_
    refine ⟨_, rfl, a, _, 1, .ref q, rfl, rfl, SqT.of ha, rfl, q, rfl, ⟨us, SqT.of hq⟩, fun D hD => lc_tup0 (T := TB K) .refl hD hq (by rw [hus, zL]; omega) (fun i H acc => RTs H acc ((ps.take i).filter (inW ws))) (fun _ => .nil) (fun _ _ _ _ e h => h.tup e) ?_ ?_⟩
    · intro i x H2 Nx hx e2 kk kn
      obtain ⟨t, ht, rt⟩ := hps.get hx
      have hm := List.mem_of_getElem? ht
      have gt := goodL_mem.mp hg.2 t hm
      have lt := lvL_mem hm
      have tt := hgt_lv gt
      refine ⟨rfl, _, rfl, x, t, rfl, rt.tup (e2.tup lsts_nil), by omega, gt, by omega, fun p H3 np e3 h3 => ?_⟩
      have z3 : (t.under.map V.str).length ≤ sizeLine := by rw [List.length_map, under_len, zL]; omega
      refine ⟨p, rfl, ⟨_, SqL.of h3⟩, fun D2 hD2 => lc_list0 (T := TB K) .refl hD2 h3 z3 (fun j _ acc => acc = ((t.under.take j).filter fun w => !decide (w ∈ ws)).map V.str) (fun _ => rfl) (fun _ _ _ _ _ h => h) ?_ ?_⟩
      · intro j y H4 Ny hy e4 ky kny
        obtain ⟨z, hz, rfl⟩ : ∃ z, t.under[j]? = some z ∧ V.str z = y := by
          rw [List.getElem?_map] at hy
          cases ez : t.under[j]? with
          | none => rw [ez] at hy; cases hy
          | some z => rw [ez] at hy; exact ⟨z, rfl, by injection hy⟩
        refine ⟨rfl, _, rfl, _, rfl, wl, _, rfl, .inl (SqL.of (((e2.trans e3).trans e4).get0 hw trivial)), rfl, flat_strs _, ?_⟩
        refine ⟨_, rfl, ?_⟩
        rw [if_pos rfl, inV_str]
        by_cases hz2 : z ∈ ws
        · rw [decide_eq_true hz2]
          refine iteF ?_
          refine kny _ .refl fun acc ha => ?_
          rw [ha, take_snoc hz, List.filter_append]
          simp [hz2]
        · rw [decide_eq_false hz2]
          refine iteT ?_
          refine ⟨_, rfl, ky _ _ .refl fun acc _ ha => ?_⟩
          rw [ha, take_snoc hz, List.filter_append]
          simp [hz2]
      · intro H4 ys e4 hD4 hy
        have ey : ys = (t.under.filter fun w => !decide (w ∈ ws)).map V.str := by
          rw [hy, List.length_map, List.take_length]
        subst ey
        refine ⟨(by decide : 0 ≤ sizeLine), fun pn hpn => ?_⟩
        have e5 := e4.alloc (o := .lst []) hpn
        have hD5 : (upd H4 pn (.lst [])) D2 = some (.lst ((t.under.filter fun w => !decide (w ∈ ws)).map V.str)) := by rw [upd_ne (ne_of_none hD4 hpn)]; exact hD4
        refine ⟨.list ((t.under.filter fun w => !decide (w ∈ ws)).map PyData.str), .list (([] : List Str).map PyData.str), dp_strs hD5, .lst (SqL.of upd_same) .nil, shaped_strs (fun w m => under_ok gt w (List.mem_filter.mp m).1), by decide +kernel, ?_⟩
        refine ⟨_, rfl, ?_⟩
        have ee : PyData.eqv (.list ((t.under.filter fun w => !decide (w ∈ ws)).map PyData.str)) (.list (([] : List Str).map PyData.str)) = inW ws t := eqv_strs
        rw [ee]
        have e6 := e3.trans e5
        cases hi : inW ws t with
        | true =>
          refine iteT ?_
          refine ⟨_, rfl, kk _ _ e6 fun acc _ ha => ?_⟩
          rw [take_snoc ht, List.filter_append]
          have e7 : [t].filter (inW ws) = [t] := by simp [hi]
          rw [e7]
          exact (ha.tup (e6.tup lsts_nil)).append (.cons (rt.tup ((e2.trans e6).tup lsts_nil)) .nil)
        | false =>
          refine iteF ?_
          refine kn _ e6 fun acc ha => ?_
          rw [take_snoc ht, List.filter_append]
          have e7 : [t].filter (inW ws) = [] := by simp [hi]
          rw [e7, List.append_nil]
          exact ha.tup (e6.tup lsts_nil)
    · intro H2 hs e2 hD2 hy
      rw [hus, List.take_length] at hy
      obtain ⟨hp, ehp⟩ : ∃ hp, hp = ps.filter (inW ws) := ⟨_, rfl⟩
      rw [← ehp] at hy
      have hhp : goodL hp := by
        rw [ehp]
        exact goodL_mem.mpr fun t m => goodL_mem.mp hg.2 t (List.mem_filter.mp m).1
      have lhp : lvL hp ≤ lvL ps := by
        have := lvL_perm (List.filter_append_perm (inW ws) ps)
        rw [lvL_append, ← ehp] at this
        omega
      have hlh := len_lv hhp
      have hhl := hgtL_lv hhp
      refine ⟨(by decide : 0 ≤ sizeLine), fun l0 hl0 => ?_⟩
      have e0 : Stp (TB K) [] H (upd H2 l0 (.lst [])) := e2.alloc hl0
      have hD0 : (upd H2 l0 (.lst [])) D = some (.lst hs) := by rw [upd_ne (ne_of_none hD2 hl0)]; exact hD2
      have hy0 := hy.tup (Tup.new (o := .lst []) hl0)
      refine ⟨_, rfl, D, rfl, ⟨hs, SqL.of hD0⟩, for_list (xs := hs) (fun i σ H' => ∃ (l : Addr) (p4 : Option V), σ = [some (.ref a), some (.ref wl), some (.ref D), some (.ref l), p4, none] ∧ Stp (TB K) [] (upd H2 l0 (.lst [])) H' ∧ H' l = some (.lst ((underL (hp.take i)).map V.str)))
        ⟨l0, none, rfl, .refl, upd_same⟩ (fun i σ H' _ ⟨_, _, _, e, _⟩ => SqL.of (e.get0 hD0 trivial)) ?_ ?_⟩
      · rintro i x σ H3 hx ⟨l, p4, rfl, e3, h3⟩
        obtain ⟨t, ht, rt⟩ := hy0.get hx
        have hm := List.mem_of_getElem? ht
        have gt := goodL_mem.mp hhp t hm
        have lt := lvL_mem hm
        have tt := hgt_lv gt
        refine ⟨_, rfl, _, rfl, x, t, rfl, rt.tup (e3.tup lsts_nil), by omega, gt, by omega, fun p H4 np e4 h4 => ?_⟩
        refine ⟨l, p, _, _, rfl, rfl, e4.get0 h3 trivial, h4, ?_, fun p2 hp2 => ?_⟩
        · rw [List.length_map, List.length_map, ← List.length_append, ← underL_snoc ht, underL_len, zL]
          have := lvL_take hp (i + 1)
          omega
        · refine ⟨p2, _, rfl, (e3.trans e4).alloc hp2, ?_⟩
          rw [upd_same, underL_snoc ht, List.map_append]
      · rintro σ H3 ⟨l, p4, rfl, e3, h3⟩
        rw [hy.length, List.take_length] at h3
        have e03 := e0.trans e3
        have hD3 := e3.get0 hD0 trivial
        have hy3 := hy0.tup (e3.tup lsts_nil)
        -- back to the parts
        have back : ∀ H4, Stp (TB K) [] H H4 → tCall (spI (TB K) n) [] L2.E0 (tCons (tVar 0) (tCons (tVar 1) (tCons (tC (.int 0)) (tCons (tTup (tCons (tC (.str "")) (tCons (tC (.bl true)) tNil))) tNil)))) [some (.ref a), some (.ref wl), some (.ref D), some (.ref l), p4, none] H4 Q := by
          intro H4 e4
          refine ⟨_, rfl, _, rfl, (by decide : 2 ≤ sizeLine), fun p hp => ?_⟩
          have e5 : Stp (TB K) [] H _ := e4.alloc (o := .tup [.str "", .bl true]) hp
          exact ⟨_, ps, wl, ws, _, 0, [], rfl, hA.step e5, .inl ⟨rfl, rfl⟩, fun l fs ts H3 e3 nl h3 r3 g3 => k l fs ts H3 (e5.trans e3) (nl.back e5) h3 r3 g3.1⟩
        refine ⟨_, rfl, D, hs, rfl, .inl (SqL.of hD3), ?_⟩
        rw [hy.length]
        refine ⟨_, _, rfl, rfl, _, rfl, ?_⟩
        by_cases h1 : 1 < hp.length
        · rw [decide_eq_true (by omega)]
          refine iteT ?_
          refine ⟨_, rfl, D, hs, rfl, .inl (SqL.of hD3), ?_⟩
          rw [hy.length]
          refine ⟨_, rfl, a, _, 1, .ref q, rfl, rfl, SqT.of (e03.get0 ha trivial), rfl, q, us, rfl, .inr (SqT.of (e03.get0 hq trivial)), ?_⟩
          rw [hus]
          refine ⟨_, _, rfl, rfl, _, rfl, ?_⟩
          by_cases h4 : hp.length < ps.length
          · rw [decide_eq_true (by omega)]
            refine iteT ?_
            refine ⟨_, rfl, l, _, rfl, SqL.of h3, by rw [underL_len]; omega, fun ys p hp1 hp2 hp3 => ?_⟩
            have ey : ys = sortS (underL hp) := sortS_of hp1 (sortedS_pw hp2)
            subst ey
            have e5 := e03.alloc (o := .lst ((sortS (underL hp)).map V.str)) hp3
            refine ⟨_, rfl, .list ((sortS (underL hp)).map PyData.str), .list (ws.map PyData.str), dp_strs upd_same, dp_strs (e5.get0 hw trivial), shaped_strs (fun w m => isNm_ok (underL_nm hhp w (sortS_mem.mp m))), shaped_strs hok, ?_⟩
            refine ⟨_, rfl, ?_⟩
            have ee : PyData.eqv (.list ((sortS (underL hp)).map PyData.str)) (.list (ws.map PyData.str)) = decide (sortS (underL hp) = ws) := eqv_strs
            rw [ee]
            by_cases h6 : sortS (underL hp) = ws
            · rw [decide_eq_true h6]
              refine iteT ?_
              obtain ⟨R, gf, vf⟩ := rep_join (inW ws) hg.2 hn.2 (by rw [← ehp]; exact h1) (by rw [← ehp]; exact h4)
              rw [← ehp] at R
              have e35 : Stp (TB K) [] H3 _ := .new (o := .lst ((sortS (underL hp)).map V.str)) hp3
              have hq5 := e5.get0 hq trivial
              have hps5 := hps.tup (e5.tup lsts_nil)
              have hD5 := e35.get0 hD3 trivial
              have hy5 := hy3.tup (e35.tup lsts_nil)
              refine ⟨_, rfl, a, _, 1, .ref q, rfl, rfl, SqT.of (e5.get0 ha trivial), rfl, q, rfl, ⟨us, SqT.of hq5⟩, fun D2 hD2n => lc_tup0 (T := TB K) .refl hD2n hq5 (by rw [hus, zL]; omega) (fun i H acc => RTs H acc ((ps.take i).filter fun t => !inW ws t)) (fun _ => .nil) (fun _ _ _ _ e h => h.tup e) ?_ ?_⟩
              · intro i x H6 Nx hx e6 kk kn
                obtain ⟨t, ht, rt⟩ := hps5.get hx
                have hm := List.mem_of_getElem? ht
                have gt := goodL_mem.mp hg.2 t hm
                have lt := lvL_mem hm
                have tt := hgt_lv gt
                have rt6 := rt.tup (e6.tup lsts_nil)
                refine ⟨rfl, _, rfl, _, rfl, t.data, dataL hp, rt6.dp, rts_ne (e6.get0 hD5 trivial) (hy5.tup (e6.tup lsts_nil)), shaped_tr gt (by omega), shaped_trs hhp (by omega), ?_⟩
                refine ⟨_, rfl, ?_⟩
                have em : ((dataL hp).any fun z => PyData.eqv z t.data) = inW ws t := by
                  rw [Bool.eq_iff_iff, any_data, ehp, List.mem_filter]
                  exact ⟨fun h => h.2, fun h => ⟨hm, h⟩⟩
                rw [em]
                cases hi : inW ws t with
                | true =>
                  refine iteF ?_
                  refine kn _ .refl fun acc ha => ?_
                  rw [take_snoc ht, List.filter_append]
                  have e7 : [t].filter (fun t => !inW ws t) = [] := by simp [hi]
                  rw [e7, List.append_nil]
                  exact ha
                | false =>
                  refine iteT ?_
                  refine ⟨_, rfl, kk _ _ .refl fun acc _ ha => ?_⟩
                  rw [take_snoc ht, List.filter_append]
                  have e7 : [t].filter (fun t => !inW ws t) = [t] := by simp [hi]
                  rw [e7]
                  exact ha.append (.cons rt6 .nil)
              · intro H6 ys e6 hD6 hy6
                rw [hus, List.take_length] at hy6
                have e56 := e5.trans e6
                refine ⟨_, rfl, _, hp, rfl, ⟨D, hs, rfl, e6.get0 hD5 trivial, hy5.tup (e6.tup lsts_nil)⟩, by omega, hhp, by omega, e56.tabs hT, fun v' H7 r7 e7 => ?_⟩
                refine ⟨(by decide : 1 ≤ sizeLine), fun p8 hp8 => ?_⟩
                have e8 : Stp (TB K) [] H6 _ := e7.alloc (o := .lst [v']) hp8
                refine ⟨D2, p8, _, _, rfl, rfl, e8.get0 hD6 trivial, upd_same, ?_, fun p9 hp9 => ?_⟩
                · have h9 := hy6.length
                  have h10 := List.length_filter_le (fun t => !inW ws t) ps
                  rw [h9, zL]
                  simp only [List.length_cons, List.length_nil]
                  omega
                have e9 := e8.alloc (o := .lst (ys ++ [v'])) hp9
                have rr := (hy6.tup (e9.tup lsts_nil)).append (.cons (r7.tup (((Tup.new (o := .lst [v']) hp8)).trans (Tup.new (o := .lst (ys ++ [v'])) hp9))) .nil)
                have gl := hgtL_lv R.good
                have kl := R.len
                have rl := R.lv
                simp only [List.length_nil] at rl
                refine ⟨_, _, rfl, ⟨p9, _, rfl, upd_same, rr⟩, by omega, R.good, by omega, (e56.trans e9).tabs hT, fun v2 H10 r10 e10 => ?_⟩
                exact grp_end k (e56.trans e9) e10 r10 R.res
            · rw [decide_eq_false h6]
              refine iteF ?_
              exact back _ e5
          · rw [decide_eq_false (by omega)]
            refine iteF ?_
            refine iteF ?_
            exact back _ e03
        · rw [decide_eq_false (by omega)]
          refine iteF ?_
          refine iteF ?_
          exact back _ e03) (g_law_joined T)
end
end K3

namespace K3
open PySem PySem.Spec PyProof.Rows L2 LamX LK LB
section
variable {P : Program} {w : World} {K : PySem.W.Frag} {mg : Str → Option Value} {base : Heap}
theorem cal_inside (T : Tx K mg base) : ∀ n, Cal P w K mg base (2 * n + 72) "_law_inside" (spI (TB K) n)
  | 0 => cal_mk (fn_law_inside T (k := 71) (fun vs H Q E ⟨v, ps, wl, ws, x, s, ex, e, _⟩ => by rw [e]; rfl) fun A outer s H vs Q E hr ⟨v, ps, wl, ws, x, s, ex, e, h, _⟩ => absurd h.h (Nat.not_lt_zero _)) (g_law_inside T)
  | n + 1 => (cal_inside_of T (cal_joined_of T (cal_inside T n)) (cal_loose_of T (cal_inside T n)) (cal_added_of T (cal_inside T n))).mono (by omega)
theorem cal_joined (T : Tx K mg base) : Cal P w K mg base 133 "_law_joined" (spJ (TB K) 30) := cal_joined_of (n := 30) T (cal_inside T 30)
theorem cal_loose (T : Tx K mg base) : Cal P w K mg base 133 "_law_loose" (spJ (TB K) 30) := cal_loose_of (n := 30) T (cal_inside T 30)
theorem cal_added (T : Tx K mg base) : Cal P w K mg base 133 "_law_added" (spA (TB K) 30) := cal_added_of (n := 30) T (cal_inside T 30)

def hit (t : Tr) (left : List Tr) (j : Nat) : Bool := (left[j]?).any fun u => decide (t.form = u.form)
theorem dp_ints {K : PySem.W.Frag} {H : Hp} {l : Addr} {ns : List Int} (h : H l = some (.lst (ns.map V.int))) : Dp K H (.ref l) (.list (ns.map PyData.int)) := by
  refine .lst (SqL.of h) ?_
  clear h
  induction ns with
  | nil => exact .nil
  | cons x r ih => exact .cons (.int _) ih
theorem seqIndex_nat {j n : Nat} (h : j < n) : seqIndex? (j : Int) n = some j := by
  unfold seqIndex?
  simp
  omega
theorem erase_perm {α : Type} {xs : List α} {i : Nat} {x : α} (h : xs[i]? = some x) : xs.Perm (x :: xs.eraseIdx i) := by
  have e := split_at h
  rw [List.eraseIdx_eq_take_drop_succ]
  conv => lhs; rw [e]
  rw [List.append_assoc]
  exact List.perm_middle
def spMatch (Tb : TBs) (n : Nat) : Sp := fun vs H Q _ => ∃ (v1 v2 : V) (t1 t2 : Tr), vs = [v1, v2] ∧ RT H v1 t1 ∧ RT H v2 t2 ∧ t1.hgt < n ∧ t1.good ∧ t2.good ∧ t1.lv < 64 ∧ t2.lv < 64 ∧ ∀ H', Stp Tb [] H H' → Q (.bl (decide (t1.form = t2.form))) H'
theorem cal_match (T : Tx K mg base) : ∀ n, Cal P w K mg base (n + 1) "_law_match" (spMatch (TB K) n)
  | 0 => cal_mk (fn_law_match T (fun vs H Q E ⟨v, v2, t, t2, e, _⟩ => by rw [e]; rfl) fun A outer s H vs Q E hr ⟨v, v2, t, t2, e, _, _, h, _⟩ => absurd h (Nat.not_lt_zero _)) (g_law_match T)
  | n + 1 => cal_mk (fn_law_match T (fun vs H Q E ⟨v, v2, t, t2, e, _⟩ => by rw [e]; rfl) fun A outer s H vs Q E hr h => by
    obtain ⟨v1, v2, t1, t2, rfl, hR1, hR2, hh, hg1, hg2, hl1, hl2, k⟩ := h
    have c_law_match : Cal P w K mg base (n + 1) "_law_match" (spMatch (TB K) n) := cal_match T n
    refine ⟨_, (pss_cons (ps_if (PW.pt (pw_or (pt_cmpR op_ne (pe_ix ix_tup (pv 0) pe_int (fun _ _ => rfl)) pe_str (nomark _)) (pw_or1 (pt_cmpR op_ne (pe_ix ix_tup (pv 1) pe_int (fun _ _ => rfl)) pe_str (nomark _))))) (pss_one (ps_ret (pe_and (pe_cmpR op_ne (pe_ix ix_tup (pv 0) pe_int (fun _ _ => rfl)) pe_str (nomark _)) (pe_and (pe_cmpR op_ne (pe_ix ix_tup (pv 1) pe_int (fun _ _ => rfl)) pe_str (nomark _)) (pe_one (pe_cmpR op_eq (pe_ix ix_tup (pv 0) pe_int (fun _ _ => rfl)) (pe_ix ix_tup (pv 1) pe_int (fun _ _ => rfl)) (nomark _))))))) pss_nil)
  (pss_cons (ps_if (pt_cmpR op_ne (pe_callB call_len_seq (by rfl) (n_len T) (by decide +kernel) (pa_cons (pe_ix ix_tup (pv 0) pe_int (fun _ _ => rfl)) pa_nil)) (pe_callB call_len_seq (by rfl) (n_len T) (by decide +kernel) (pa_cons (pe_ix ix_tup (pv 1) pe_int (fun _ _ => rfl)) pa_nil)) (nomark _)) (pss_one (ps_ret pe_bl)) pss_nil)
  (pss_cons (ps_set (i := 2) sc_law_match.nd rfl (Or.inr rfl) (pe_callTy call_list_of (by rfl) (n_list T) (by decide +kernel) (pa_cons (pe_ix ix_tup (pv 1) pe_int (fun _ _ => rfl)) pa_nil)))
  (pss_cons (ps_for PassesOwn.never rfl (pi_tup (pe_ix ix_tup (pv 0) pe_int (fun _ _ => rfl))) (pg_name (i := 3) sc_law_match.nd rfl (Or.inr rfl)) (pss_cons (ps_setLc (i := 4) (own := [("k", 5)]) (g := gName 5) rfl sc_law_match.nd rfl rfl (sw_true rfl rfl rfl (by decide +kernel)) (pi_range1 (by rfl) (n_range T) (pa_cons (pe_callB call_len_seq (by rfl) (n_len T) (by decide +kernel) (pa_cons (pv 2) pa_nil)) pa_nil)) (blkOk_by (own := [("k", 5)]) (N := N_law_match) (sc := defScope s_law_match) (by decide +kernel)) (fun _ _ _ _ _ => (pg_name (i := 5) sc_law_match.nd rfl (Or.inl rfl))) (fun _ _ _ _ _ => pts_one (pt_val (pe_c c_law_match hr (by omega) rfl (pa_cons (pv 3) (pa_cons (pe_ix (r := rIxL K) ix_list (pv 2) (pv 5) (fun _ _ => rfl)) pa_nil))))) (fun _ _ _ _ _ => (pv 5)))
  (pss_cons (ps_if (pt_cmpR (op_eqD hr.units) (pv 4) (pe_lst pa_nil) (nomark _)) (pss_one (ps_ret pe_bl)) pss_nil)
  (pss_one (ps_expr (pe_bm PySem.F.plainAttrs_list PySem.F.slot_list_pop PySem.F.type_list_pop mt_popAt (pv 2) (pa_cons (pe_ix ix_list (pv 4) pe_int (fun _ _ => rfl)) pa_nil)))))))
  (pss_one (ps_ret pe_bl)))))), ?_⟩
    cases hR1 with
    | @leaf a nm fr ha =>
      have hne : (decide (V.str nm = V.str "")) = false := decide_eq_false (fun e => isNm_ne hg1 (by injection e))
      refine ⟨_, rfl, a, _, 0, .str nm, rfl, rfl, SqT.of ha, rfl, rfl, _, rfl, ?_⟩
      rw [hne]
      refine iteT ?_
      refine iteT ?_
      refine ⟨_, rfl, a, _, 0, .str nm, rfl, rfl, SqT.of ha, rfl, rfl, _, rfl, ?_⟩
      rw [hne]
      refine iteT ?_
      cases hR2 with
      | @leaf b nm2 fr2 hb =>
        have hne2 : (decide (V.str nm2 = V.str "")) = false := decide_eq_false (fun e => isNm_ne hg2 (by injection e))
        refine ⟨_, rfl, b, _, 0, .str nm2, rfl, rfl, SqT.of hb, rfl, rfl, _, rfl, ?_⟩
        rw [hne2]
        refine iteT ?_
        refine ⟨_, rfl, a, _, 1, .bl fr, rfl, rfl, SqT.of ha, rfl, _, rfl, b, _, 1, .bl fr2, rfl, rfl, SqT.of hb, rfl, rfl, ?_⟩
        have e : decide (V.bl fr = V.bl fr2) = decide ((Tr.leaf nm fr).form = (Tr.leaf nm2 fr2).form) := decide_eq_decide.mpr ⟨fun h => form_leaf_iff.mpr (by injection h), fun h => by rw [form_leaf_iff.mp h]⟩
        rw [e]
        exact k _ .refl
      | @grp b q us ps hb hq hps =>
        refine ⟨_, rfl, b, _, 0, .str "", rfl, rfl, SqT.of hb, rfl, rfl, _, rfl, ?_⟩
        refine iteF ?_
        have e : decide ((Tr.leaf nm fr).form = (Tr.grp ps).form) = false := decide_eq_false form_leaf_grp
        rw [← e]
        exact k _ .refl
    | @grp a q us ps ha hq hps =>
      refine ⟨_, rfl, a, _, 0, .str "", rfl, rfl, SqT.of ha, rfl, rfl, _, rfl, ?_⟩
      refine iteF ?_
      cases hR2 with
      | @leaf b nm2 fr2 hb =>
        have hne2 : (decide (V.str nm2 = V.str "")) = false := decide_eq_false (fun e => isNm_ne hg2 (by injection e))
        refine ⟨_, rfl, b, _, 0, .str nm2, rfl, rfl, SqT.of hb, rfl, rfl, _, rfl, ?_⟩
        rw [hne2]
        refine iteT ?_
        refine ⟨_, rfl, a, _, 0, .str "", rfl, rfl, SqT.of ha, rfl, rfl, _, rfl, ?_⟩
        refine iteF ?_
        have e : decide ((Tr.grp ps).form = (Tr.leaf nm2 fr2).form) = false := decide_eq_false fun h => form_leaf_grp h.symm
        rw [← e]
        exact k _ .refl
      | @grp b r zs qs hb hr2 hqs =>
        refine ⟨_, rfl, b, _, 0, .str "", rfl, rfl, SqT.of hb, rfl, rfl, _, rfl, ?_⟩
        refine iteF ?_
        have hv1 : lvL ps < 64 := hl1
        have hv2 : lvL qs < 64 := hl2
        have le1 := len_lv hg1.2
        have le2 := len_lv hg2.2
        have hus := hps.length
        have hzs := hqs.length
        refine ⟨_, rfl, a, _, 1, .ref q, rfl, rfl, SqT.of ha, rfl, q, us, rfl, .inr (SqT.of hq), ?_⟩
        refine ⟨_, rfl, b, _, 1, .ref r, rfl, rfl, SqT.of hb, rfl, r, zs, rfl, .inr (SqT.of hr2), ?_⟩
        refine ⟨rfl, _, rfl, ?_⟩
        rw [hus, hzs]
        by_cases hlen : ps.length = qs.length
        · rw [decide_eq_true (by rw [hlen])]
          refine iteF ?_
          refine ⟨_, rfl, b, _, 1, .ref r, rfl, rfl, SqT.of hb, rfl, r, zs, rfl, .inr (SqT.of hr2), fun l0 hl0 => ?_⟩
          have e0 : Stp (TB K) [] H (upd H l0 (.lst zs)) := .new hl0
          refine ⟨_, rfl, a, _, 1, .ref q, rfl, rfl, SqT.of (e0.get0 ha trivial), rfl, q, rfl, ⟨us, SqT.of (e0.get0 hq trivial)⟩,
            for_tup (xs := us) (fun i σ H' => ∃ (p3 p4 : Option V) (vs : List V) (left : List Tr), σ = [some (.ref a), some (.ref b), some (.ref l0), p3, p4, none] ∧ Stp (TB K) [] H H' ∧ H' l0 = some (.lst vs) ∧ RTs H' vs left ∧ goodL left ∧ lvL left < 64 ∧ (formL (ps.take i) ++ formL left).Perm (formL qs))
              ⟨none, none, zs, qs, rfl, e0, upd_same, hqs.tup (e0.tup lsts_nil), hg2.2, hv2, .refl _⟩ (fun i σ H' _ ⟨_, _, _, _, _, e, _⟩ => SqT.of (e.get0 hq trivial)) ?_ ?_⟩
          · rintro i x σ H1 hx ⟨p3, p4, vs, left, rfl, e1, h1, r1, gl, vl, pl⟩
            obtain ⟨t, ht, rt⟩ := hps.get hx
            have S := sub_of (List.mem_of_getElem? ht) hh hg1 hl1
            have ll := len_lv gl
            have hvs := r1.length
            refine ⟨_, rfl, l0, vs, rfl, .inl (SqL.of h1), ?_⟩
            rw [hvs]
            refine ⟨_, rfl, by omega, by omega, fun D hD => ?_⟩
            have ej : ((left.length : Nat) : Int).toNat = left.length := rfl
            rw [ej]
            refine lc_acc (T := TB K) (B := []) walk_range (fun i x => x = .int (i : Nat)) (fun i H x H' h => ⟨h.1, h.2.trans (congrArg V.int (Int.zero_add _))⟩) (fun _ => True) .refl hD (by simp) (by rw [zL]; omega) (fun j _ acc => acc = ((List.range j).filter fun m => hit t left m).map fun m => V.int ((m : Nat) : Int)) (fun _ => rfl) (fun _ _ _ _ _ h => h) trivial (fun _ _ _ => trivial) (fun _ _ _ => trivial) ?_ ?_
            · rintro j y H2 Nx hj rfl e2 _ kk kn
              obtain ⟨u, hu⟩ : ∃ u, left[j]? = some u := ⟨left[j], by simp [hj]⟩
              obtain ⟨uv, huv, ru⟩ := r1.getV hu
              have hm := List.mem_of_getElem? hu
              have gu := goodL_mem.mp gl u hm
              have lu := lvL_mem hm
              refine ⟨rfl, _, rfl, _, rfl, _, rfl, l0, vs, _, uv, rfl, rfl, SqL.of (e2.get0 h1 trivial), atI_nat huv, x, uv, t, u, rfl, rt.tup ((e1.trans e2).tup lsts_nil), ru.tup (e2.tup lsts_nil), S.hgt, S.good, gu, S.lv, by omega, fun H3 e3 => ?_⟩
              refine ⟨_, rfl, ?_⟩
              have eh : hit t left j = decide (t.form = u.form) := by
                unfold hit
                rw [hu]
                rfl
              rw [← eh]
              cases hhit : hit t left j with
              | true =>
                refine iteT ?_
                refine ⟨_, rfl, kk _ _ e3 trivial fun acc _ ha => ?_⟩
                rw [ha, List.range_succ, List.filter_append]
                simp [hhit]
              | false =>
                refine iteF ?_
                refine kn _ e3 trivial fun acc ha => ?_
                rw [ha, List.range_succ, List.filter_append]
                simp [hhit]
            · intro H2 ys e2 _ hD2 hy
              obtain ⟨js, ejs⟩ : ∃ js, js = (List.range left.length).filter fun m => hit t left m := ⟨_, rfl⟩
              rw [← ejs] at hy
              have ey : ys = (js.map fun m => ((m : Nat) : Int)).map V.int := by
                rw [hy, List.map_map]
                rfl
              subst ey
              refine ⟨_, rfl, (by decide : 0 ≤ sizeLine), fun pn hpn => ?_⟩
              have e3 : Stp (TB K) [] H2 (upd H2 pn (.lst [])) := .new hpn
              have hD3 := e3.get0 hD2 trivial
              refine ⟨.list ((js.map fun m => ((m : Nat) : Int)).map PyData.int), .list [], dp_ints hD3, .lst (SqL.of upd_same) .nil, PySem.W.shaped_ints _, by decide +kernel, ?_⟩
              refine ⟨_, rfl, ?_⟩
              have e12 := e1.trans (e2.trans e3)
              cases ejc : js with
              | nil =>
                refine iteT ?_
                have hno : (Tr.grp ps).form ≠ (Tr.grp qs).form := by
                  intro he
                  have p2 := pl.trans (form_grp_iff.mp he).symm
                  have es : formL ps = formL (ps.take i) ++ formL (ps.drop i) := by
                    rw [formL_map, formL_map, formL_map, ← List.map_append, List.take_append_drop]
                  rw [es] at p2
                  have p3 := (List.perm_append_left_iff _).mp p2
                  have hmem : t.form ∈ formL left := by
                    refine p3.mem_iff.mpr ?_
                    rw [formL_map]
                    refine List.mem_map.mpr ⟨t, ?_, rfl⟩
                    rw [List.mem_iff_getElem?]
                    refine ⟨0, ?_⟩
                    rw [List.getElem?_drop]
                    exact ht
                  rw [formL_map] at hmem
                  obtain ⟨u, mu, eu⟩ := List.mem_map.mp hmem
                  obtain ⟨j, hj⟩ := List.mem_iff_getElem?.mp mu
                  have hjl : j < left.length := by
                    rcases Nat.lt_or_ge j left.length with h | h
                    · exact h
                    · rw [List.getElem?_eq_none h] at hj
                      cases hj
                  have : j ∈ js := by
                    rw [ejs, List.mem_filter]
                    refine ⟨List.mem_range.mpr hjl, ?_⟩
                    unfold hit
                    rw [hj]
                    exact decide_eq_true eu.symm
                  rw [ejc] at this
                  cases this
                have e : decide ((Tr.grp ps).form = (Tr.grp qs).form) = false := decide_eq_false hno
                rw [← e]
                exact k _ e12
              | cons j0 jr =>
                refine iteF ?_
                have hj0 : j0 ∈ js := by rw [ejc]; simp
                rw [ejs, List.mem_filter] at hj0
                obtain ⟨m0, h0⟩ := hj0
                have hj0l := List.mem_range.mp m0
                obtain ⟨u, hu⟩ : ∃ u, left[j0]? = some u := ⟨left[j0], by simp [hj0l]⟩
                obtain ⟨uv, huv, ru⟩ := r1.getV hu
                unfold hit at h0
                rw [hu] at h0
                have ef : t.form = u.form := of_decide_eq_true h0
                have h13 := e3.get0 (e2.get0 h1 trivial) trivial
                have hD4 : (upd H2 pn (.lst [])) D = some (.lst (V.int (j0 : Nat) :: (jr.map fun m => ((m : Nat) : Int)).map V.int)) := by
                  rw [hD3, ejc]
                  rfl
                refine ⟨_, rfl, .inl ⟨rfl, vs, SqL.of h13⟩, _, rfl, D, _, 0, .int (j0 : Nat), rfl, rfl, SqL.of hD4, atI_nat (j := 0) rfl, ?_⟩
                refine ⟨l0, vs, _, j0, uv, rfl, rfl, h13, by omega, by omega, seqIndex_nat (by omega), huv, ?_⟩
                have pe := erase_perm hu
                refine ⟨_, _, _, left.eraseIdx j0, rfl, e12.mut (.inl (.of hl0)) h13 trivial, upd_same, ?_, ?_, ?_, ?_⟩
                · exact ((r1.tup ((e2.trans e3).tup lsts_nil)).eraseIdx j0).tup (Tup.mutl h13)
                · exact ((goodL_perm pe).mp gl).2
                · have := lvL_perm pe
                  simp only [lvL] at this
                  omega
                · have e6 : formL (ps.take (i + 1)) = formL (ps.take i) ++ [t.form] := by
                    rw [formL_map, formL_map, take_snoc ht, List.map_append]
                    rfl
                  rw [e6, List.append_assoc]
                  refine (List.Perm.append_left _ ?_).trans pl
                  have p4 := formL_perm pe
                  rw [ef]
                  exact p4.symm
          · rintro σ H1 ⟨p3, p4, vs, left, rfl, e1, h1, r1, gl, vl, pl⟩
            rw [hus, List.take_length] at pl
            have pll := pl.length_eq
            rw [List.length_append, formL_map, formL_map, formL_map, List.length_map, List.length_map, List.length_map] at pll
            have el : left = [] := List.eq_nil_of_length_eq_zero (by omega)
            rw [el] at pl
            have e : decide ((Tr.grp ps).form = (Tr.grp qs).form) = true := decide_eq_true (form_grp_iff.mpr (by simpa [formL] using pl))
            have := k _ e1
            rw [e] at this
            exact this
        · rw [decide_eq_false (fun z => hlen (by injection z with z; omega))]
          refine iteT ?_
          have hno : (Tr.grp ps).form ≠ (Tr.grp qs).form := by
            intro he
            have p2 := (form_grp_iff.mp he).length_eq
            rw [formL_map, formL_map, List.length_map, List.length_map] at p2
            exact hlen p2
          have e : decide ((Tr.grp ps).form = (Tr.grp qs).form) = false := decide_eq_false hno
          rw [← e]
          exact k _ .refl) (g_law_match T)
end
end K3

namespace K3
open PySem PySem.Spec PyProof.Rows L2 LamX LK LB
def B6 (l : Addr) (i g m c f : Int) : List V := [.ref l, .int i, .int g, .int m, .int c, .int f]
/-- the bag at b, its numbers at l -/
structure Bg (H : Hp) (b l : Addr) : Prop where
  ex : ∃ (xs : List Int) (i g m c f : Int), H b = some (.lst (B6 l i g m c f)) ∧ H l = some (.lst (xs.map V.int)) ∧ 0 ≤ i ∧ 0 ≤ m ∧ m < 2147483563
  ne : l ≠ b
theorem Bg.step {T : TBs} {H H' : Hp} {b l : Addr} (B : Bg H b l) (e : Stp T [] H H') : Bg H' b l := by
  obtain ⟨⟨xs, i, g, m, c, f, h1, h2, h⟩, ne⟩ := B
  exact ⟨⟨xs, i, g, m, c, f, e.get0 h1 trivial, e.get0 h2 trivial, h⟩, ne⟩
theorem Bg.upd {H : Hp} {b l D : Addr} {o : HO} (B : Bg H b l) (h1 : b ≠ D) (h2 : l ≠ D) : Bg (upd H D o) b l := by
  obtain ⟨⟨xs, i, g, m, c, f, h3, h4, h⟩, ne⟩ := B
  exact ⟨⟨xs, i, g, m, c, f, by rw [upd_ne h1]; exact h3, by rw [upd_ne h2]; exact h4, h⟩, ne⟩
theorem Bg.lsts {H : Hp} {b l : Addr} (B : Bg H b l) : Lsts H [b] := by
  obtain ⟨⟨xs, i, g, m, c, f, h3, h4, h⟩, ne⟩ := B
  exact lsts_one h3
theorem Bg.nb {H : Hp} {b l D : Addr} (B : Bg H b l) (h : Nw H D) : b ≠ D ∧ l ≠ D := by
  obtain ⟨⟨xs, i, g, m, c, f, h3, h4, _⟩, ne⟩ := B
  exact ⟨h.ne h3 trivial, h.ne h4 trivial⟩
section
variable {P : Program} {w : World} {K : PySem.W.Frag} {mg : Str → Option Value} {base : Heap}
def spDraw (Tb : TBs) : Sp := fun vs H Q _ => ∃ (b l : Addr) (n : Int), vs = [.ref b, .int n] ∧ 0 < n ∧ n < 1073741824 ∧ Bg H b l ∧
  ∀ (d : Int) H', 0 ≤ d → d < n → Stp Tb [b] H H' → Bg H' b l → Q (.int d) H'
theorem cal_draw (T : Tx K mg base) : Cal P w K mg base 2 "_law_draw" (spDraw (TB K)) :=
  cal_mk (fn_law_draw T (k := 1) (fun vs H Q E ⟨b, l, n, e, _⟩ => by rw [e]; rfl) fun A outer s H vs Q E hr h => by
    obtain ⟨b, l, n, rfl, hn, hn2, ⟨⟨xs, i, g, m, c, f, h1, h2, hi, hm, hm2⟩, ne⟩, k⟩ := h
    refine ⟨_, (pss_cons (ps_asg (pe_op op_add (pe_ix ix_list (pv 0) pe_int (fun _ _ => rfl)) pe_int) (pg_sub (pv 0) pe_int set_list))
  (pss_cons (ps_if (PW.pt (pw_and (pt_cmpR op_eq (pe_ix ix_list (pv 0) pe_int (fun _ _ => rfl)) pe_int (nomark _)) (pw_and1 (pt_cmpR op_lt (pe_ix ix_list (pv 0) pe_int (fun _ _ => rfl)) (pe_callB call_len_seq (by rfl) (n_len T) (by decide +kernel) (pa_cons (pe_ix ix_list (pv 0) pe_int (fun _ _ => rfl)) pa_nil)) (nomark _))))) (pss_cons (ps_set (i := 2) sc_law_draw.nd rfl (Or.inl rfl) (pe_ix ix_list (pe_ix ix_list (pv 0) pe_int (fun _ _ => rfl)) (pe_ix ix_list (pv 0) pe_int (fun _ _ => rfl)) (fun _ _ => rfl)))
  (pss_cons (ps_asg (pe_op op_add (pe_ix ix_list (pv 0) pe_int (fun _ _ => rfl)) pe_int) (pg_sub (pv 0) pe_int set_list))
  (pss_one (ps_if (pt_cmpR op_ge (pv 2) (pe_op op_pow pe_int pe_int) (nomark _)) (pss_cons (ps_asg (pv 2) (pg_sub (pv 0) pe_int set_list))
  (pss_one (ps_asg pe_int (pg_sub (pv 0) pe_int set_list)))) (pss_one (ps_asg (pe_op op_mod (pe_callTy call_int1 (by rfl) (n_int T) (by decide +kernel) (pa_cons (pe_op op_add (pe_op op_add (pe_op op_mul (pe_ix ix_list (pv 0) pe_int (fun _ _ => rfl)) pe_int) (pe_op op_mul (pe_op op_mod (pe_callTy call_int1 (by rfl) (n_int T) (by decide +kernel) (pa_cons (pv 2) pa_nil)) pe_int) pe_int)) pe_int) pa_nil)) pe_int) (pg_sub (pv 0) pe_int set_list))))))) pss_nil)
  (pss_cons (ps_if (pt_cmpR op_gt (pe_ix ix_list (pv 0) pe_int (fun _ _ => rfl)) pe_int (nomark _)) (pss_cons (ps_set (i := 3) sc_law_draw.nd rfl (Or.inl rfl) (pe_op op_mod (pe_callTy call_int1 (by rfl) (n_int T) (by decide +kernel) (pa_cons (pe_ix ix_list (pv 0) pe_int (fun _ _ => rfl)) pa_nil)) (pv 1)))
  (pss_cons (ps_asg (pe_op op_sub (pe_ix ix_list (pv 0) pe_int (fun _ _ => rfl)) pe_int) (pg_sub (pv 0) pe_int set_list))
  (pss_cons (ps_asg (pe_ifExp (pt_cmpR op_gt (pe_ix ix_list (pv 0) pe_int (fun _ _ => rfl)) pe_int (nomark _)) (pe_op op_fdivN (pe_ix ix_list (pv 0) pe_int (fun _ _ => rfl)) (pv 1)) pe_int) (pg_sub (pv 0) pe_int set_list))
  (pss_one (ps_ret (pv 3)))))) pss_nil)
  (pss_cons (ps_asg (pe_op op_mod (pe_callTy call_int1 (by rfl) (n_int T) (by decide +kernel) (pa_cons (pe_op op_add (pe_op op_add (pe_op op_pow (pe_ix ix_list (pv 0) pe_int (fun _ _ => rfl)) pe_int) (pe_op op_mul (pe_ix ix_list (pv 0) pe_int (fun _ _ => rfl)) pe_int)) pe_int) pa_nil)) pe_int) (pg_sub (pv 0) pe_int set_list))
  (pss_one (ps_ret (pe_op op_mod (pe_callTy call_int1 (by rfl) (n_int T) (by decide +kernel) (pa_cons (pe_op op_add (pe_op op_fdivN (pe_ix ix_list (pv 0) pe_int (fun _ _ => rfl)) pe_int) (pe_op op_mul (pe_op op_mod (pe_callTy call_int1 (by rfl) (n_int T) (by decide +kernel) (pa_cons (pe_ix ix_list (pv 0) pe_int (fun _ _ => rfl)) pa_nil)) pe_int) pe_int)) pa_nil)) (pv 1)))))))), ?_⟩
    -- bag[4] = bag[4] + 1
    refine ⟨_, rfl, b, _, 4, .int c, rfl, rfl, SqL.of h1, rfl, _, _, rfl, rfl, _, rfl, b, _, 4, 4, rfl, rfl, h1, rfl, ?_⟩
    have s1 : ∀ (o : HO) (H : Hp) (z : HO), H b = some z → Own z → Stp (TB K) [b] H (upd H b o) := fun o H z e ow => .set e ow (by simp)
    obtain ⟨H1, eH1⟩ : ∃ H1, H1 = upd H b (.lst (B6 l i g m (c + 1) f)) := ⟨_, rfl⟩
    have e1 : Stp (TB K) [b] H H1 := by rw [eH1]; exact s1 _ _ _ h1 trivial
    have b1 : H1 b = some (.lst (B6 l i g m (c + 1) f)) := by rw [eH1]; exact upd_same
    have l1 : H1 l = some (.lst (xs.map V.int)) := by rw [eH1, upd_ne ne]; exact h2
    have goal1 : upd H b (.lst ((B6 l i g m c f).set 4 (.int (c + 1)))) = H1 := by rw [eH1]; rfl
    rw [goal1]
    clear goal1 eH1
    refine ⟨_, rfl, b, _, 2, .int g, rfl, rfl, SqL.of b1, rfl, rfl, _, rfl, ?_⟩
    have dz : ∀ z : Int, decide (V.int z = V.int 0) = decide (z = 0) := fun z => decide_eq_decide.mpr ⟨fun e => by injection e, fun e => by rw [e]⟩
    rw [dz]
    by_cases hg : g = 0 ∧ i < (xs.length : Int)
    · rw [decide_eq_true hg.1]
      refine iteT ?_
      refine ⟨_, rfl, b, _, 1, .int i, rfl, rfl, SqL.of b1, rfl, _, rfl, b, _, 0, .ref l, rfl, rfl, SqL.of b1, rfl, l, _, rfl, .inl (SqL.of l1), _, _, rfl, rfl, _, rfl, ?_⟩
      rw [decide_eq_true (by rw [List.length_map]; exact hg.2)]
      refine iteT ?_
      obtain ⟨j, rfl⟩ : ∃ j : Nat, i = (j : Int) := ⟨i.toNat, by omega⟩
      have hj : j < xs.length := by omega
      have hx : (xs.map V.int)[j]? = some (.int (xs[j]'hj)) := by rw [List.getElem?_map, List.getElem?_eq_getElem hj]; rfl
      refine ⟨_, rfl, b, _, 0, .ref l, rfl, rfl, SqL.of b1, rfl, _, rfl, b, _, 1, .int (j : Int), rfl, rfl, SqL.of b1, rfl, l, _, _, _, rfl, rfl, SqL.of l1, atI_nat hx, ?_⟩
      refine ⟨_, rfl, b, _, 1, .int (j : Int), rfl, rfl, SqL.of b1, rfl, _, _, rfl, rfl, _, rfl, b, _, 1, 1, rfl, rfl, b1, rfl, ?_⟩
      have b2 : (upd H1 b (.lst (B6 l ((j : Int) + 1) g m (c + 1) f))) b = some (.lst (B6 l ((j : Int) + 1) g m (c + 1) f)) := upd_same
      have l2 : (upd H1 b (.lst (B6 l ((j : Int) + 1) g m (c + 1) f))) l = some (.lst (xs.map V.int)) := by rw [upd_ne ne]; exact l1
      have e2 : Stp (TB K) [b] H (upd H1 b (.lst (B6 l ((j : Int) + 1) g m (c + 1) f))) := e1.trans (s1 _ _ _ b1 trivial)
      have goal2 : upd H1 b (.lst ((B6 l (j : Int) g m (c + 1) f).set 1 (.int ((j : Int) + 1)))) = upd H1 b (.lst (B6 l ((j : Int) + 1) g m (c + 1) f)) := rfl
      rw [goal2]
      generalize upd H1 b (.lst (B6 l ((j : Int) + 1) g m (c + 1) f)) = H2 at b2 l2 e2 ⊢
      clear goal2
      refine ⟨_, rfl, _, _, rfl, rfl, ⟨by decide, by decide, by decide⟩, _, _, rfl, rfl, _, rfl, ?_⟩
      have hi' : 0 ≤ (j : Int) + 1 := by omega
      by_cases hbig : (10 : Int) ^ (18 : Int).toNat ≤ xs[j]'hj
      · rw [decide_eq_true hbig]
        refine iteT ?_
        refine ⟨_, rfl, _, rfl, b, _, 2, 2, rfl, rfl, b2, rfl, ?_⟩
        refine ⟨_, rfl, b, _, 5, 5, rfl, rfl, upd_same, rfl, ?_⟩
        obtain ⟨g', eg'⟩ : ∃ g', g' = xs[j]'hj := ⟨_, rfl⟩
        have goal3 : upd (upd H2 b (.lst ((B6 l ((j : Int) + 1) g m (c + 1) f).set 2 (.int (xs[j]'hj))))) b (.lst (((B6 l ((j : Int) + 1) g m (c + 1) f).set 2 (.int (xs[j]'hj))).set 5 (.int 60))) = upd H2 b (.lst (B6 l ((j : Int) + 1) g' m (c + 1) 60)) := by rw [upd_upd, ← eg']; rfl
        rw [goal3]
        have b3 : (upd H2 b (.lst (B6 l ((j : Int) + 1) g' m (c + 1) 60))) b = some (.lst (B6 l ((j : Int) + 1) g' m (c + 1) 60)) := upd_same
        have l3 : (upd H2 b (.lst (B6 l ((j : Int) + 1) g' m (c + 1) 60))) l = some (.lst (xs.map V.int)) := by rw [upd_ne ne]; exact l2
        have e3 : Stp (TB K) [b] H (upd H2 b (.lst (B6 l ((j : Int) + 1) g' m (c + 1) 60))) := e2.trans (s1 _ _ _ b2 trivial)
        generalize upd H2 b (.lst (B6 l ((j : Int) + 1) g' m (c + 1) 60)) = H3 at b3 l3 e3 ⊢
        have hm' := hm
        have hm2' := hm2
        clear goal3 eg'
        clear e2 e1 b1 b2 l1 l2
        generalize (j : Int) + 1 = i' at *
        generalize (60 : Int) = f' at b3
        generalize m = m' at *
        refine ⟨_, rfl, b, _, 2, .int g', rfl, rfl, SqL.of b3, rfl, _, _, rfl, rfl, _, rfl, ?_⟩
        by_cases hg' : 0 < g'
        · rw [decide_eq_true hg']
          refine iteT ?_
          refine ⟨_, rfl, b, _, 2, .int g', rfl, rfl, SqL.of b3, rfl, .inl ⟨_, rfl, _, rfl, _, _, rfl, rfl, hn, ?_⟩⟩
          refine ⟨_, rfl, b, _, 5, .int f', rfl, rfl, SqL.of b3, rfl, _, _, rfl, rfl, _, rfl, b, _, 5, 5, rfl, rfl, b3, rfl, ?_⟩
          have b4 : (upd H3 b (.lst (B6 l i' g' m' (c + 1) (f' - 1)))) b = some (.lst (B6 l i' g' m' (c + 1) (f' - 1))) := upd_same
          have l4 : (upd H3 b (.lst (B6 l i' g' m' (c + 1) (f' - 1)))) l = some (.lst (xs.map V.int)) := by rw [upd_ne ne]; exact l3
          have e4 : Stp (TB K) [b] H (upd H3 b (.lst (B6 l i' g' m' (c + 1) (f' - 1)))) := e3.trans (s1 _ _ _ b3 trivial)
          refine ⟨_, rfl, b, _, 5, .int (f' - 1), rfl, rfl, SqL.of b4, rfl, _, _, rfl, rfl, _, rfl, ?_⟩
          have fin : ∀ g2 : Int, Q (.int (g' % n)) (upd (upd H3 b (.lst (B6 l i' g' m' (c + 1) (f' - 1)))) b (.lst (B6 l i' g2 m' (c + 1) (f' - 1)))) := fun g2 =>
            k _ _ (Int.emod_nonneg _ (by omega)) (Int.emod_lt_of_pos _ hn) (e4.trans (s1 _ _ _ b4 trivial)) ⟨⟨xs, i', g2, m', c + 1, f' - 1, upd_same, by rw [upd_ne ne]; exact l4, hi', hm', hm2'⟩, ne⟩
          by_cases hf : 0 < f' - 1
          · rw [decide_eq_true hf]
            refine iteT ?_
            refine ⟨_, rfl, b, _, 2, .int g', rfl, rfl, SqL.of b4, rfl, _, rfl, _, _, rfl, rfl, ⟨by omega, by omega⟩, _, rfl, b, _, 2, 2, rfl, rfl, b4, rfl, _, rfl, ?_⟩
            exact fin _
          · rw [decide_eq_false hf]
            refine iteF ?_
            refine ⟨_, rfl, b, _, 2, 2, rfl, rfl, b4, rfl, _, rfl, ?_⟩
            exact fin 0
        · rw [decide_eq_false hg']
          refine iteF ?_
          refine ⟨_, rfl, b, _, 3, .int m', rfl, rfl, SqL.of b3, rfl, _, _, rfl, rfl, ⟨by decide, by decide, by omega⟩, _, rfl, b, _, 4, .int (c + 1), rfl, rfl, SqL.of b3, rfl, _, _, rfl, rfl, .inr ⟨by decide, by decide⟩, _, _, rfl, rfl, _, _, rfl, rfl, .inl ⟨_, rfl, _, _, rfl, rfl, (by show (0 : Int) < _; decide), _, rfl, b, _, 3, 3, rfl, rfl, b3, rfl, ?_⟩⟩
          have hq0 : ∀ z : Int, 0 ≤ z % 2147483563 ∧ z % 2147483563 < 2147483563 := fun z => ⟨Int.emod_nonneg _ (by decide), Int.emod_lt_of_pos _ (by decide)⟩
          obtain ⟨m2, em2⟩ : ∃ m2, m2 = (m' ^ (3 : Int).toNat + (c + 1) * 1299721 + 70001) % 2147483563 := ⟨_, rfl⟩
          have hq := hq0 (m' ^ (3 : Int).toNat + (c + 1) * 1299721 + 70001)
          rw [← em2] at hq
          have b4 : (upd H3 b (.lst (B6 l i' g' m2 (c + 1) f'))) b = some (.lst (B6 l i' g' m2 (c + 1) f')) := upd_same
          have l4 : (upd H3 b (.lst (B6 l i' g' m2 (c + 1) f'))) l = some (.lst (xs.map V.int)) := by rw [upd_ne ne]; exact l3
          have e4 : Stp (TB K) [b] H (upd H3 b (.lst (B6 l i' g' m2 (c + 1) f'))) := e3.trans (s1 _ _ _ b3 trivial)
          subst em2
          refine ⟨_, rfl, b, _, 3, .int ((m' ^ (3 : Int).toNat + (c + 1) * 1299721 + 70001) % 2147483563), rfl, rfl, SqL.of b4, rfl, _, _, rfl, rfl, ⟨by decide, by decide⟩, _, rfl, b, _, 3, .int ((m' ^ (3 : Int).toNat + (c + 1) * 1299721 + 70001) % 2147483563), rfl, rfl, SqL.of b4, rfl, .inl ⟨_, rfl, _, _, rfl, rfl, (by show (0 : Int) < _; decide), _, _, rfl, rfl, .inr ⟨by decide, by decide⟩, _, _, rfl, rfl, .inl ⟨_, rfl, _, rfl, _, _, rfl, rfl, hn, ?_⟩⟩⟩
          exact k _ _ (Int.emod_nonneg _ (by omega)) (Int.emod_lt_of_pos _ hn) e4 ⟨⟨xs, i', g', _, c + 1, f', b4, l4, hi', hq.1, hq.2⟩, ne⟩
      · rw [decide_eq_false hbig]
        refine iteF ?_
        refine ⟨_, rfl, b, _, 3, .int m, rfl, rfl, SqL.of b2, rfl, _, _, rfl, rfl, .inr ⟨by decide, by decide⟩, _, rfl, .inl ⟨_, rfl, _, _, rfl, rfl, (by show (0 : Int) < _; decide), _, _, rfl, rfl, .inr ⟨by decide, by decide⟩, _, _, rfl, rfl, _, _, rfl, rfl, .inl ⟨_, rfl, _, _, rfl, rfl, (by show (0 : Int) < _; decide), _, rfl, b, _, 3, 3, rfl, rfl, b2, rfl, ?_⟩⟩⟩
        have hq0 : ∀ z : Int, 0 ≤ z % 2147483563 ∧ z % 2147483563 < 2147483563 := fun z => ⟨Int.emod_nonneg _ (by decide), Int.emod_lt_of_pos _ (by decide)⟩
        obtain ⟨m', em'⟩ : ∃ m', m' = (m * 69621 + (xs[j]'hj) % 2147483543 * 30103 + 89) % 2147483563 := ⟨_, rfl⟩
        have hm' := (hq0 (m * 69621 + (xs[j]'hj) % 2147483543 * 30103 + 89)).1
        have hm2' := (hq0 (m * 69621 + (xs[j]'hj) % 2147483543 * 30103 + 89)).2
        rw [← em'] at hm' hm2'
        have b3 : (upd H2 b (.lst (B6 l ((j : Int) + 1) g m' (c + 1) f))) b = some (.lst (B6 l ((j : Int) + 1) g m' (c + 1) f)) := upd_same
        have l3 : (upd H2 b (.lst (B6 l ((j : Int) + 1) g m' (c + 1) f))) l = some (.lst (xs.map V.int)) := by rw [upd_ne ne]; exact l2
        have e3 : Stp (TB K) [b] H (upd H2 b (.lst (B6 l ((j : Int) + 1) g m' (c + 1) f))) := e2.trans (s1 _ _ _ b2 trivial)
        have goal3 : upd H2 b (.lst ((B6 l ((j : Int) + 1) g m (c + 1) f).set 3 ((fun i j : Int => V.int (i % j)) (m * 69621 + (xs[j]'hj) % 2147483543 * 30103 + 89) 2147483563))) = upd H2 b (.lst (B6 l ((j : Int) + 1) g m' (c + 1) f)) := by rw [em']; rfl
        show (fun H3 => _) (upd H2 b (.lst ((B6 l ((j : Int) + 1) g m (c + 1) f).set 3 ((fun i j : Int => V.int (i % j)) (m * 69621 + (xs[j]'hj) % 2147483543 * 30103 + 89) 2147483563))))
        rw [goal3]
        generalize upd H2 b (.lst (B6 l ((j : Int) + 1) g m' (c + 1) f)) = H3 at b3 l3 e3 ⊢
        clear goal3 em' hm hm2
        clear e2 e1 b1 b2 l1 l2
        generalize (j : Int) + 1 = i' at *
        generalize g = g' at *
        generalize f = f' at *
        refine ⟨_, rfl, b, _, 2, .int g', rfl, rfl, SqL.of b3, rfl, _, _, rfl, rfl, _, rfl, ?_⟩
        by_cases hg' : 0 < g'
        · rw [decide_eq_true hg']
          refine iteT ?_
          refine ⟨_, rfl, b, _, 2, .int g', rfl, rfl, SqL.of b3, rfl, .inl ⟨_, rfl, _, rfl, _, _, rfl, rfl, hn, ?_⟩⟩
          refine ⟨_, rfl, b, _, 5, .int f', rfl, rfl, SqL.of b3, rfl, _, _, rfl, rfl, _, rfl, b, _, 5, 5, rfl, rfl, b3, rfl, ?_⟩
          have b4 : (upd H3 b (.lst (B6 l i' g' m' (c + 1) (f' - 1)))) b = some (.lst (B6 l i' g' m' (c + 1) (f' - 1))) := upd_same
          have l4 : (upd H3 b (.lst (B6 l i' g' m' (c + 1) (f' - 1)))) l = some (.lst (xs.map V.int)) := by rw [upd_ne ne]; exact l3
          have e4 : Stp (TB K) [b] H (upd H3 b (.lst (B6 l i' g' m' (c + 1) (f' - 1)))) := e3.trans (s1 _ _ _ b3 trivial)
          refine ⟨_, rfl, b, _, 5, .int (f' - 1), rfl, rfl, SqL.of b4, rfl, _, _, rfl, rfl, _, rfl, ?_⟩
          have fin : ∀ g2 : Int, Q (.int (g' % n)) (upd (upd H3 b (.lst (B6 l i' g' m' (c + 1) (f' - 1)))) b (.lst (B6 l i' g2 m' (c + 1) (f' - 1)))) := fun g2 =>
            k _ _ (Int.emod_nonneg _ (by omega)) (Int.emod_lt_of_pos _ hn) (e4.trans (s1 _ _ _ b4 trivial)) ⟨⟨xs, i', g2, m', c + 1, f' - 1, upd_same, by rw [upd_ne ne]; exact l4, hi', hm', hm2'⟩, ne⟩
          by_cases hf : 0 < f' - 1
          · rw [decide_eq_true hf]
            refine iteT ?_
            refine ⟨_, rfl, b, _, 2, .int g', rfl, rfl, SqL.of b4, rfl, _, rfl, _, _, rfl, rfl, ⟨by omega, by omega⟩, _, rfl, b, _, 2, 2, rfl, rfl, b4, rfl, _, rfl, ?_⟩
            exact fin _
          · rw [decide_eq_false hf]
            refine iteF ?_
            refine ⟨_, rfl, b, _, 2, 2, rfl, rfl, b4, rfl, _, rfl, ?_⟩
            exact fin 0
        · rw [decide_eq_false hg']
          refine iteF ?_
          refine ⟨_, rfl, b, _, 3, .int m', rfl, rfl, SqL.of b3, rfl, _, _, rfl, rfl, ⟨by decide, by decide, by omega⟩, _, rfl, b, _, 4, .int (c + 1), rfl, rfl, SqL.of b3, rfl, _, _, rfl, rfl, .inr ⟨by decide, by decide⟩, _, _, rfl, rfl, _, _, rfl, rfl, .inl ⟨_, rfl, _, _, rfl, rfl, (by show (0 : Int) < _; decide), _, rfl, b, _, 3, 3, rfl, rfl, b3, rfl, ?_⟩⟩
          have hq0 : ∀ z : Int, 0 ≤ z % 2147483563 ∧ z % 2147483563 < 2147483563 := fun z => ⟨Int.emod_nonneg _ (by decide), Int.emod_lt_of_pos _ (by decide)⟩
          obtain ⟨m2, em2⟩ : ∃ m2, m2 = (m' ^ (3 : Int).toNat + (c + 1) * 1299721 + 70001) % 2147483563 := ⟨_, rfl⟩
          have hq := hq0 (m' ^ (3 : Int).toNat + (c + 1) * 1299721 + 70001)
          rw [← em2] at hq
          have b4 : (upd H3 b (.lst (B6 l i' g' m2 (c + 1) f'))) b = some (.lst (B6 l i' g' m2 (c + 1) f')) := upd_same
          have l4 : (upd H3 b (.lst (B6 l i' g' m2 (c + 1) f'))) l = some (.lst (xs.map V.int)) := by rw [upd_ne ne]; exact l3
          have e4 : Stp (TB K) [b] H (upd H3 b (.lst (B6 l i' g' m2 (c + 1) f'))) := e3.trans (s1 _ _ _ b3 trivial)
          subst em2
          refine ⟨_, rfl, b, _, 3, .int ((m' ^ (3 : Int).toNat + (c + 1) * 1299721 + 70001) % 2147483563), rfl, rfl, SqL.of b4, rfl, _, _, rfl, rfl, ⟨by decide, by decide⟩, _, rfl, b, _, 3, .int ((m' ^ (3 : Int).toNat + (c + 1) * 1299721 + 70001) % 2147483563), rfl, rfl, SqL.of b4, rfl, .inl ⟨_, rfl, _, _, rfl, rfl, (by show (0 : Int) < _; decide), _, _, rfl, rfl, .inr ⟨by decide, by decide⟩, _, _, rfl, rfl, .inl ⟨_, rfl, _, rfl, _, _, rfl, rfl, hn, ?_⟩⟩⟩
          exact k _ _ (Int.emod_nonneg _ (by omega)) (Int.emod_lt_of_pos _ hn) e4 ⟨⟨xs, i', g', _, c + 1, f', b4, l4, hi', hq.1, hq.2⟩, ne⟩
    · have hdo : ∀ (G : Prop), (∀ it : Option V, True → G) → G := fun G h => h none trivial
      obtain ⟨H3, eH3⟩ : ∃ H3, H3 = H1 := ⟨_, rfl⟩
      have b3 := b1
      have l3 := l1
      have e3 := e1
      rw [← eH3] at b3 l3 e3 ⊢
      have hi' := hi
      have hm' := hm
      have hm2' := hm2
      clear b1 l1 e1
      by_cases hg0 : g = 0
      · rw [decide_eq_true hg0]
        refine iteT ?_
        refine ⟨_, rfl, b, _, 1, .int i, rfl, rfl, SqL.of b3, rfl, _, rfl, b, _, 0, .ref l, rfl, rfl, SqL.of b3, rfl, l, _, rfl, .inl (SqL.of l3), _, _, rfl, rfl, _, rfl, ?_⟩
        rw [decide_eq_false (by rw [List.length_map]; exact fun z => hg ⟨hg0, z⟩)]
        refine iteF ?_
        clear hg0 hg
        generalize i = i' at *
        generalize g = g' at *
        generalize f = f' at *
        generalize m = m' at *
        refine ⟨_, rfl, b, _, 2, .int g', rfl, rfl, SqL.of b3, rfl, _, _, rfl, rfl, _, rfl, ?_⟩
        by_cases hg' : 0 < g'
        · rw [decide_eq_true hg']
          refine iteT ?_
          refine ⟨_, rfl, b, _, 2, .int g', rfl, rfl, SqL.of b3, rfl, .inl ⟨_, rfl, _, rfl, _, _, rfl, rfl, hn, ?_⟩⟩
          refine ⟨_, rfl, b, _, 5, .int f', rfl, rfl, SqL.of b3, rfl, _, _, rfl, rfl, _, rfl, b, _, 5, 5, rfl, rfl, b3, rfl, ?_⟩
          have b4 : (upd H3 b (.lst (B6 l i' g' m' (c + 1) (f' - 1)))) b = some (.lst (B6 l i' g' m' (c + 1) (f' - 1))) := upd_same
          have l4 : (upd H3 b (.lst (B6 l i' g' m' (c + 1) (f' - 1)))) l = some (.lst (xs.map V.int)) := by rw [upd_ne ne]; exact l3
          have e4 : Stp (TB K) [b] H (upd H3 b (.lst (B6 l i' g' m' (c + 1) (f' - 1)))) := e3.trans (s1 _ _ _ b3 trivial)
          refine ⟨_, rfl, b, _, 5, .int (f' - 1), rfl, rfl, SqL.of b4, rfl, _, _, rfl, rfl, _, rfl, ?_⟩
          have fin : ∀ g2 : Int, Q (.int (g' % n)) (upd (upd H3 b (.lst (B6 l i' g' m' (c + 1) (f' - 1)))) b (.lst (B6 l i' g2 m' (c + 1) (f' - 1)))) := fun g2 =>
            k _ _ (Int.emod_nonneg _ (by omega)) (Int.emod_lt_of_pos _ hn) (e4.trans (s1 _ _ _ b4 trivial)) ⟨⟨xs, i', g2, m', c + 1, f' - 1, upd_same, by rw [upd_ne ne]; exact l4, hi', hm', hm2'⟩, ne⟩
          by_cases hf : 0 < f' - 1
          · rw [decide_eq_true hf]
            refine iteT ?_
            refine ⟨_, rfl, b, _, 2, .int g', rfl, rfl, SqL.of b4, rfl, _, rfl, _, _, rfl, rfl, ⟨by omega, by omega⟩, _, rfl, b, _, 2, 2, rfl, rfl, b4, rfl, _, rfl, ?_⟩
            exact fin _
          · rw [decide_eq_false hf]
            refine iteF ?_
            refine ⟨_, rfl, b, _, 2, 2, rfl, rfl, b4, rfl, _, rfl, ?_⟩
            exact fin 0
        · rw [decide_eq_false hg']
          refine iteF ?_
          refine ⟨_, rfl, b, _, 3, .int m', rfl, rfl, SqL.of b3, rfl, _, _, rfl, rfl, ⟨by decide, by decide, by omega⟩, _, rfl, b, _, 4, .int (c + 1), rfl, rfl, SqL.of b3, rfl, _, _, rfl, rfl, .inr ⟨by decide, by decide⟩, _, _, rfl, rfl, _, _, rfl, rfl, .inl ⟨_, rfl, _, _, rfl, rfl, (by show (0 : Int) < _; decide), _, rfl, b, _, 3, 3, rfl, rfl, b3, rfl, ?_⟩⟩
          have hq0 : ∀ z : Int, 0 ≤ z % 2147483563 ∧ z % 2147483563 < 2147483563 := fun z => ⟨Int.emod_nonneg _ (by decide), Int.emod_lt_of_pos _ (by decide)⟩
          obtain ⟨m2, em2⟩ : ∃ m2, m2 = (m' ^ (3 : Int).toNat + (c + 1) * 1299721 + 70001) % 2147483563 := ⟨_, rfl⟩
          have hq := hq0 (m' ^ (3 : Int).toNat + (c + 1) * 1299721 + 70001)
          rw [← em2] at hq
          have b4 : (upd H3 b (.lst (B6 l i' g' m2 (c + 1) f'))) b = some (.lst (B6 l i' g' m2 (c + 1) f')) := upd_same
          have l4 : (upd H3 b (.lst (B6 l i' g' m2 (c + 1) f'))) l = some (.lst (xs.map V.int)) := by rw [upd_ne ne]; exact l3
          have e4 : Stp (TB K) [b] H (upd H3 b (.lst (B6 l i' g' m2 (c + 1) f'))) := e3.trans (s1 _ _ _ b3 trivial)
          subst em2
          refine ⟨_, rfl, b, _, 3, .int ((m' ^ (3 : Int).toNat + (c + 1) * 1299721 + 70001) % 2147483563), rfl, rfl, SqL.of b4, rfl, _, _, rfl, rfl, ⟨by decide, by decide⟩, _, rfl, b, _, 3, .int ((m' ^ (3 : Int).toNat + (c + 1) * 1299721 + 70001) % 2147483563), rfl, rfl, SqL.of b4, rfl, .inl ⟨_, rfl, _, _, rfl, rfl, (by show (0 : Int) < _; decide), _, _, rfl, rfl, .inr ⟨by decide, by decide⟩, _, _, rfl, rfl, .inl ⟨_, rfl, _, rfl, _, _, rfl, rfl, hn, ?_⟩⟩⟩
          exact k _ _ (Int.emod_nonneg _ (by omega)) (Int.emod_lt_of_pos _ hn) e4 ⟨⟨xs, i', g', _, c + 1, f', b4, l4, hi', hq.1, hq.2⟩, ne⟩
      · rw [decide_eq_false hg0]
        refine iteF ?_
        refine iteF ?_
        clear hg0 hg
        generalize i = i' at *
        generalize g = g' at *
        generalize f = f' at *
        generalize m = m' at *
        refine ⟨_, rfl, b, _, 2, .int g', rfl, rfl, SqL.of b3, rfl, _, _, rfl, rfl, _, rfl, ?_⟩
        by_cases hg' : 0 < g'
        · rw [decide_eq_true hg']
          refine iteT ?_
          refine ⟨_, rfl, b, _, 2, .int g', rfl, rfl, SqL.of b3, rfl, .inl ⟨_, rfl, _, rfl, _, _, rfl, rfl, hn, ?_⟩⟩
          refine ⟨_, rfl, b, _, 5, .int f', rfl, rfl, SqL.of b3, rfl, _, _, rfl, rfl, _, rfl, b, _, 5, 5, rfl, rfl, b3, rfl, ?_⟩
          have b4 : (upd H3 b (.lst (B6 l i' g' m' (c + 1) (f' - 1)))) b = some (.lst (B6 l i' g' m' (c + 1) (f' - 1))) := upd_same
          have l4 : (upd H3 b (.lst (B6 l i' g' m' (c + 1) (f' - 1)))) l = some (.lst (xs.map V.int)) := by rw [upd_ne ne]; exact l3
          have e4 : Stp (TB K) [b] H (upd H3 b (.lst (B6 l i' g' m' (c + 1) (f' - 1)))) := e3.trans (s1 _ _ _ b3 trivial)
          refine ⟨_, rfl, b, _, 5, .int (f' - 1), rfl, rfl, SqL.of b4, rfl, _, _, rfl, rfl, _, rfl, ?_⟩
          have fin : ∀ g2 : Int, Q (.int (g' % n)) (upd (upd H3 b (.lst (B6 l i' g' m' (c + 1) (f' - 1)))) b (.lst (B6 l i' g2 m' (c + 1) (f' - 1)))) := fun g2 =>
            k _ _ (Int.emod_nonneg _ (by omega)) (Int.emod_lt_of_pos _ hn) (e4.trans (s1 _ _ _ b4 trivial)) ⟨⟨xs, i', g2, m', c + 1, f' - 1, upd_same, by rw [upd_ne ne]; exact l4, hi', hm', hm2'⟩, ne⟩
          by_cases hf : 0 < f' - 1
          · rw [decide_eq_true hf]
            refine iteT ?_
            refine ⟨_, rfl, b, _, 2, .int g', rfl, rfl, SqL.of b4, rfl, _, rfl, _, _, rfl, rfl, ⟨by omega, by omega⟩, _, rfl, b, _, 2, 2, rfl, rfl, b4, rfl, _, rfl, ?_⟩
            exact fin _
          · rw [decide_eq_false hf]
            refine iteF ?_
            refine ⟨_, rfl, b, _, 2, 2, rfl, rfl, b4, rfl, _, rfl, ?_⟩
            exact fin 0
        · rw [decide_eq_false hg']
          refine iteF ?_
          refine ⟨_, rfl, b, _, 3, .int m', rfl, rfl, SqL.of b3, rfl, _, _, rfl, rfl, ⟨by decide, by decide, by omega⟩, _, rfl, b, _, 4, .int (c + 1), rfl, rfl, SqL.of b3, rfl, _, _, rfl, rfl, .inr ⟨by decide, by decide⟩, _, _, rfl, rfl, _, _, rfl, rfl, .inl ⟨_, rfl, _, _, rfl, rfl, (by show (0 : Int) < _; decide), _, rfl, b, _, 3, 3, rfl, rfl, b3, rfl, ?_⟩⟩
          have hq0 : ∀ z : Int, 0 ≤ z % 2147483563 ∧ z % 2147483563 < 2147483563 := fun z => ⟨Int.emod_nonneg _ (by decide), Int.emod_lt_of_pos _ (by decide)⟩
          obtain ⟨m2, em2⟩ : ∃ m2, m2 = (m' ^ (3 : Int).toNat + (c + 1) * 1299721 + 70001) % 2147483563 := ⟨_, rfl⟩
          have hq := hq0 (m' ^ (3 : Int).toNat + (c + 1) * 1299721 + 70001)
          rw [← em2] at hq
          have b4 : (upd H3 b (.lst (B6 l i' g' m2 (c + 1) f'))) b = some (.lst (B6 l i' g' m2 (c + 1) f')) := upd_same
          have l4 : (upd H3 b (.lst (B6 l i' g' m2 (c + 1) f'))) l = some (.lst (xs.map V.int)) := by rw [upd_ne ne]; exact l3
          have e4 : Stp (TB K) [b] H (upd H3 b (.lst (B6 l i' g' m2 (c + 1) f'))) := e3.trans (s1 _ _ _ b3 trivial)
          subst em2
          refine ⟨_, rfl, b, _, 3, .int ((m' ^ (3 : Int).toNat + (c + 1) * 1299721 + 70001) % 2147483563), rfl, rfl, SqL.of b4, rfl, _, _, rfl, rfl, ⟨by decide, by decide⟩, _, rfl, b, _, 3, .int ((m' ^ (3 : Int).toNat + (c + 1) * 1299721 + 70001) % 2147483563), rfl, rfl, SqL.of b4, rfl, .inl ⟨_, rfl, _, _, rfl, rfl, (by show (0 : Int) < _; decide), _, _, rfl, rfl, .inr ⟨by decide, by decide⟩, _, _, rfl, rfl, .inl ⟨_, rfl, _, rfl, _, _, rfl, rfl, hn, ?_⟩⟩⟩
          exact k _ _ (Int.emod_nonneg _ (by omega)) (Int.emod_lt_of_pos _ hn) e4 ⟨⟨xs, i', g', _, c + 1, f', b4, l4, hi', hq.1, hq.2⟩, ne⟩) (g_law_draw T)
end
end K3

namespace LB
open PySem PySem.Spec PyProof.Rows L2 LamX LK
theorem RTs.perm {H : Hp} {ys vs : List V} (p : ys.Perm vs) : ∀ {ts : List Tr}, RTs H vs ts → ∃ us, RTs H ys us ∧ us.Perm ts := by
  induction p with
  | nil => exact fun r => ⟨_, r, .refl _⟩
  | cons x _ ih =>
    intro ts r
    cases r with
    | cons h t =>
      obtain ⟨us, h1, h2⟩ := ih t
      exact ⟨_, .cons h h1, h2.cons _⟩
  | swap x y l =>
    intro ts r
    cases r with
    | cons h t =>
      cases t with
      | cons h2 t2 => exact ⟨_, .cons h2 (.cons h t2), .swap _ _ _⟩
  | trans _ _ i1 i2 =>
    intro ts r
    obtain ⟨us, h1, h2⟩ := i2 r
    obtain ⟨us2, h3, h4⟩ := i1 h1
    exact ⟨_, h3, h4.trans h2⟩
theorem perm_map {α β : Type} {f : α → β} {ys vs : List β} (p : ys.Perm vs) : ∀ {ts : List α}, vs = ts.map f → ∃ us : List α, ys = us.map f ∧ us.Perm ts := by
  induction p with
  | nil => exact fun {ts} e => ⟨ts, e, .refl _⟩
  | cons x _ ih =>
    intro ts e
    cases ts with
    | nil => cases e
    | cons t ts =>
      injection e with e1 e2
      obtain ⟨us, h1, h2⟩ := ih e2
      exact ⟨t :: us, by rw [h1, e1]; rfl, h2.cons _⟩
  | swap x y l =>
    intro ts e
    cases ts with
    | nil => cases e
    | cons t ts =>
      cases ts with
      | nil => injection e with _ e; cases e
      | cons t2 ts =>
        injection e with e1 e2
        injection e2 with e2 e3
        exact ⟨t2 :: t :: ts, by rw [e1, e2, e3]; rfl, .swap _ _ _⟩
  | trans _ _ i1 i2 =>
    intro ts e
    obtain ⟨us, h1, h2⟩ := i2 e
    obtain ⟨us2, h3, h4⟩ := i1 h1
    exact ⟨us2, h3, h4.trans h2⟩
end LB
namespace K3
open PySem PySem.Spec PyProof.Rows L2 LamX LK LB
section
variable {P : Program} {w : World} {K : PySem.W.Frag} {mg : Str → Option Value} {base : Heap}
def spBag (K : PySem.W.Frag) (Tb : TBs) : Sp := fun vs H Q _ => ∃ (sc : Addr) (xs : List Int), vs = [.ref sc] ∧ (∀ H', Stp Tb [] H H' → SqL K H' sc (xs.map V.int)) ∧
  ∀ b l H', Stp Tb [] H H' → Nw H b → Nw H l → Bg H' b l → Q (.ref b) H'
theorem cut_ints (xs : List Int) (lo hi : Option Int) : ∃ ys : List Int, cutV (xs.map V.int) lo hi = ys.map V.int := by
  unfold cutV
  rw [← List.map_drop, ← List.map_take]
  exact ⟨_, rfl⟩
theorem cal_bag (T : Tx K mg base) : Cal P w K mg base 1 "_law_bag" (spBag K (TB K)) :=
  cal_mk (fn_law_bag T (k := 0) (fun vs H Q E ⟨sc, xs, e, _⟩ => by rw [e]; rfl) fun A outer s H vs Q E hr h => by
    obtain ⟨sc, xs, rfl, hs, k⟩ := h
    refine ⟨_, (pss_cons (ps_set (i := 1) sc_law_bag.nd rfl (Or.inl rfl) pe_int)
  (pss_cons (ps_for PassesOwn.never rfl (pi_list (pe_slice sl_list (pv 0) po_none (po_some pe_int))) (pg_name (i := 2) sc_law_bag.nd rfl (Or.inl rfl)) (pss_one (ps_set (i := 1) sc_law_bag.nd rfl (Or.inl rfl) (pe_op op_mod (pe_callTy call_int1 (by rfl) (n_int T) (by decide +kernel) (pa_cons (pe_op op_add (pe_op op_add (pe_op op_mul (pv 1) pe_int) (pe_op op_mod (pe_callTy call_int1 (by rfl) (n_int T) (by decide +kernel) (pa_cons (pv 2) pa_nil)) pe_int)) pe_int) pa_nil)) pe_int))))
  (pss_one (ps_ret (pe_lst (pa_cons (pe_callTy call_list_of (by rfl) (n_list T) (by decide +kernel) (pa_cons (pe_slice sl_list (pv 0) po_none (po_some pe_int)) pa_nil)) (pa_cons pe_int (pa_cons pe_int (pa_cons (pv 1) (pa_cons pe_int (pa_cons pe_int pa_nil))))))))))), ?_⟩
    obtain ⟨ys, ey⟩ := cut_ints xs none (some 63)
    refine ⟨_, rfl, _, rfl, sc, _, rfl, hs _ .refl, fun p hp => ?_⟩
    rw [ey]
    have e0 : Stp (TB K) [] H (upd H p (.lst (ys.map V.int))) := .new hp
    refine ⟨p, rfl, ⟨_, SqL.of upd_same⟩, for_list (xs := ys.map V.int) (fun i σ H' => ∃ (m : Int) (p2 : Option V), σ = [some (.ref sc), some (.int m), p2] ∧ H' = upd H p (.lst (ys.map V.int)) ∧ 0 ≤ m ∧ m < 2147483563)
      ⟨17781, none, rfl, rfl, by decide, by decide⟩ (fun i σ H' _ ⟨_, _, _, e, _⟩ => by rw [e]; exact SqL.of upd_same) ?_ ?_⟩
    · rintro i x σ H1 hx ⟨m, p2, rfl, rfl, hm, hm2⟩
      obtain ⟨z, rfl⟩ : ∃ z : Int, x = .int z := by
        rw [List.getElem?_map] at hx
        cases ez : ys[i]? with
        | none => rw [ez] at hx; cases hx
        | some z => rw [ez] at hx; exact ⟨z, by injection hx with hx; exact hx.symm⟩
      refine ⟨_, rfl, _, _, rfl, rfl, .inr ⟨by decide, by decide⟩, _, rfl, .inl ⟨_, rfl, _, _, rfl, rfl, (by show (0 : Int) < _; decide), _, _, rfl, rfl, _, _, rfl, rfl, .inl ⟨_, rfl, _, _, rfl, rfl, (by show (0 : Int) < _; decide), ?_⟩⟩⟩
      exact ⟨_, _, rfl, rfl, Int.emod_nonneg _ (by decide), Int.emod_lt_of_pos _ (by decide)⟩
    · rintro σ H1 ⟨m, p2, rfl, rfl, hm, hm2⟩
      refine ⟨_, rfl, _, rfl, sc, _, rfl, hs _ e0, fun p3 hp3 => ?_⟩
      rw [ey]
      refine ⟨p3, _, rfl, .inl (SqL.of upd_same), fun l hl => ?_⟩
      have e1 := (e0.alloc (o := .lst (ys.map V.int)) hp3).alloc (o := .lst (ys.map V.int)) hl
      refine ⟨_, rfl, (by show 6 ≤ sizeLine; decide), fun b hb => ?_⟩
      have hne : l ≠ b := ne_of_none upd_same hb
      refine k b l _ (e1.alloc hb) ((Nw.of hb).back e1) ((Nw.of hl).back (e0.alloc hp3)) ⟨⟨ys, 0, 0, m, 0, 0, upd_same, by rw [upd_ne hne]; exact upd_same, by decide, hm, hm2⟩, hne⟩) (g_law_bag T)

def spOf (Tb : TBs) : Sp := fun vs H Q _ => ∃ (b l a : Addr) (xs : List V), vs = [.ref b, .ref a] ∧ H a = some (.lst xs) ∧ a ≠ b ∧ xs ≠ [] ∧ xs.length < 1000 ∧ Bg H b l ∧
  ∀ (i : Nat) (x : V) H', xs[i]? = some x → Stp Tb [b] H H' → Bg H' b l → Q x H'
theorem cal_of (T : Tx K mg base) : Cal P w K mg base 3 "_law_of" (spOf (TB K)) :=
  cal_mk (fn_law_of T (k := 2) (fun vs H Q E ⟨b, l, a, xs, e, _⟩ => by rw [e]; rfl) fun A outer s H vs Q E hr h => by
    obtain ⟨b, l, a, xs, rfl, ha, hab, hne, hlen, hB, k⟩ := h
    have c_law_draw : Cal P w K mg base 2 "_law_draw" (spDraw (TB K)) := cal_draw T
    refine ⟨_, (pss_one (ps_ret (pe_ix ix_list (pv 1) (pe_c c_law_draw hr (by omega) rfl (pa_cons (pv 0) (pa_cons (pe_callB call_len_seq (by rfl) (n_len T) (by decide +kernel) (pa_cons (pv 1) pa_nil)) pa_nil))) (fun _ _ => rfl)))), ?_⟩
    have hpos : 0 < xs.length := List.length_pos_iff.mpr hne
    refine ⟨_, rfl, _, rfl, _, rfl, a, xs, rfl, .inl (SqL.of ha), b, l, _, rfl, by omega, by omega, hB, fun d H' h0 h1 e B' => ?_⟩
    obtain ⟨j, rfl⟩ : ∃ j : Nat, d = (j : Int) := ⟨d.toNat, by omega⟩
    have hj : j < xs.length := by omega
    have hx : xs[j]? = some xs[j] := List.getElem?_eq_getElem hj
    exact ⟨a, xs, _, _, rfl, rfl, SqL.of (e.get ha trivial (by simpa using hab)), atI_nat hx, k j _ H' hx e B'⟩) (g_law_of T)

def spMixed (Tb : TBs) : Sp := fun vs H Q _ => ∃ (b l a : Addr) (xs : List V), vs = [.ref b, .ref a] ∧ (H a = some (.lst xs) ∧ a ≠ b ∨ H a = some (.tup xs)) ∧ xs.length < 1000 ∧ Bg H b l ∧
  ∀ (p : Addr) (ys : List V) H', ys.Perm xs → Stp Tb [b] H H' → Bg H' b l → Nw H p → H' p = some (.lst ys) → Q (.ref p) H'
theorem cal_mixed (T : Tx K mg base) : Cal P w K mg base 3 "_law_mixed" (spMixed (TB K)) :=
  cal_mk (fn_law_mixed T (k := 2) (fun vs H Q E ⟨b, l, a, xs, e, _⟩ => by rw [e]; rfl) fun A outer s H vs Q E hr h => by
    obtain ⟨b, l, a, xs, rfl, ha, hlen, hB, k⟩ := h
    have c_law_draw : Cal P w K mg base 2 "_law_draw" (spDraw (TB K)) := cal_draw T
    have hsq : ∀ H', Stp (TB K) [b] H H' → SqL K H' a xs ∨ SqT K H' a xs := fun H' e => by
      rcases ha with ⟨h, n⟩ | h
      · exact .inl (SqL.of (e.get h trivial (by simpa using n)))
      · exact .inr (SqT.of (e.tup hB.lsts a xs h))
    refine ⟨_, (pss_cons (ps_set (i := 2) sc_law_mixed.nd rfl (Or.inl rfl) (pe_callTy call_list_of (by rfl) (n_list T) (by decide +kernel) (pa_cons (pv 1) pa_nil)))
  (pss_cons (ps_set (i := 3) sc_law_mixed.nd rfl (Or.inl rfl) (pe_lst pa_nil))
  (pss_cons (ps_for PassesOwn.never rfl (pi_range1 (by rfl) (n_range T) (pa_cons (pe_callB call_len_seq (by rfl) (n_len T) (by decide +kernel) (pa_cons (pv 1) pa_nil)) pa_nil)) (pg_name (i := 4) sc_law_mixed.nd rfl (Or.inl rfl)) (pss_one (ps_expr (pe_bm PySem.F.plainAttrs_list PySem.F.slot_list_append PySem.F.type_list_append mt_append (pv 3) (pa_cons (pe_bm PySem.F.plainAttrs_list PySem.F.slot_list_pop PySem.F.type_list_pop mt_popAt (pv 2) (pa_cons (pe_c c_law_draw hr (by omega) rfl (pa_cons (pv 0) (pa_cons (pe_callB call_len_seq (by rfl) (n_len T) (by decide +kernel) (pa_cons (pv 2) pa_nil)) pa_nil))) pa_nil)) pa_nil)))))
  (pss_one (ps_ret (pv 3)))))), ?_⟩
    refine ⟨_, rfl, a, xs, rfl, hsq _ .refl, fun l0 hl0 => ?_⟩
    refine ⟨Nat.zero_le _, fun r0 hr0 => ?_⟩
    have e0 : Stp (TB K) [] H (upd (upd H l0 (.lst xs)) r0 (.lst [])) := (Stp.new hl0).alloc hr0
    have hlr : l0 ≠ r0 := ne_of_none upd_same hr0
    have hl1 : (upd (upd H l0 (.lst xs)) r0 (.lst [])) l0 = some (.lst xs) := by rw [upd_ne hlr]; exact upd_same
    have n0 : Nw H l0 := .of hl0
    have n1 : Nw H r0 := (Nw.of hr0).back (T := TB K) (.new hl0)
    have nb0 := hB.nb n0
    have nb1 := hB.nb n1
    refine ⟨_, rfl, a, xs, rfl, hsq _ e0.wide, ?_⟩
    refine ⟨_, rfl, by omega, by omega, ?_⟩
    have ej : ((xs.length : Nat) : Int).toNat = xs.length := rfl
    rw [ej]
    refine for_range (fun i σ H' => ∃ (p4 : Option V) (lf rw : List V), σ = [some (.ref b), some (.ref a), some (.ref l0), some (.ref r0), p4] ∧ Stp (TB K) [b] H H' ∧ Bg H' b l ∧ H' l0 = some (.lst lf) ∧ H' r0 = some (.lst rw) ∧ (rw ++ lf).Perm xs ∧ rw.length = i)
      ⟨none, xs, [], rfl, e0.wide, hB.step e0, hl1, upd_same, .refl _, rfl⟩ ?_ ?_
    · rintro i σ H1 hi ⟨p4, lf, rw, rfl, e1, B1, h1, h2, pm, hrw⟩
      have hll := pm.length_eq
      rw [List.length_append] at hll
      refine ⟨_, rfl, .inl ⟨rfl, rw, SqL.of h2⟩, _, rfl, .inl ⟨rfl, lf, SqL.of h1⟩, _, rfl, _, rfl, l0, lf, rfl, .inl (SqL.of h1), b, l, _, rfl, by omega, by omega, B1, fun d H2 hd0 hd1 e2 B2 => ?_⟩
      obtain ⟨j, rfl⟩ : ∃ j : Nat, d = (j : Int) := ⟨d.toNat, by omega⟩
      have hj : j < lf.length := by omega
      have hx : lf[j]? = some lf[j] := List.getElem?_eq_getElem hj
      have h1' := e2.get h1 trivial (by simpa using nb0.1.symm)
      have h2' := e2.get h2 trivial (by simpa using nb1.1.symm)
      refine ⟨l0, lf, _, j, _, rfl, rfl, h1', by omega, by omega, seqIndex_nat hj, hx, ?_⟩
      have h3 : (upd H2 l0 (.lst (lf.eraseIdx j))) r0 = some (.lst rw) := by rw [upd_ne hlr.symm]; exact h2'
      refine ⟨r0, rw, _, rfl, rfl, h3, by rw [zL]; omega, ?_⟩
      refine ⟨_, lf.eraseIdx j, rw ++ [lf[j]], rfl, ((e1.trans e2).mut (.inl n0) h1' trivial).mut (.inl n1) h3 trivial, (B2.upd nb0.1 nb0.2).upd nb1.1 nb1.2, ?_, upd_same, ?_, by rw [List.length_append, hrw]; rfl⟩
      · rw [upd_ne hlr]
        exact upd_same
      · rw [List.append_assoc]
        exact (List.Perm.append_left _ (erase_perm hx).symm).trans pm
    · rintro σ H1 ⟨p4, lf, rw, rfl, e1, B1, h1, h2, pm, hrw⟩
      have hll := pm.length_eq
      rw [List.length_append] at hll
      have el : lf = [] := List.eq_nil_of_length_eq_zero (by omega)
      rw [el, List.append_nil] at pm
      exact ⟨_, rfl, k r0 rw H1 pm e1 B1 n1 h2⟩) (g_law_mixed T)

def spMany (Tb : TBs) : Sp := fun vs H Q _ => ∃ (b l : Addr), vs = [.ref b] ∧ Bg H b l ∧ ∀ (n : Nat) H', 1 ≤ n → n ≤ 8 → Stp Tb [b] H H' → Bg H' b l → Q (.int (n : Int)) H'
theorem cal_many (T : Tx K mg base) : Cal P w K mg base 3 "_law_many" (spMany (TB K)) :=
  cal_mk (fn_law_many T (k := 2) (fun vs H Q E ⟨b, l, e, _⟩ => by rw [e]; rfl) fun A outer s H vs Q E hr h => by
    obtain ⟨b, l, rfl, hB, k⟩ := h
    have c_law_draw : Cal P w K mg base 2 "_law_draw" (spDraw (TB K)) := cal_draw T
    refine ⟨_, (pss_cons (ps_set (i := 1) sc_law_many.nd rfl (Or.inl rfl) (pe_c c_law_draw hr (by omega) rfl (pa_cons (pv 0) (pa_cons pe_int pa_nil))))
  (pss_cons (ps_if (pt_cmpR op_eq (pv 1) pe_int (nomark _)) (pss_one (ps_ret (pe_op op_add pe_int (pe_c c_law_draw hr (by omega) rfl (pa_cons (pv 0) (pa_cons pe_int pa_nil)))))) pss_nil)
  (pss_one (ps_ret (pe_ix ix_list (pe_lst (pa_cons pe_int (pa_cons pe_int (pa_cons pe_int (pa_cons pe_int (pa_cons pe_int (pa_cons pe_int (pa_cons pe_int (pa_cons pe_int (pa_cons pe_int pa_nil)))))))))) (pv 1) (fun _ _ => rfl)))))), ?_⟩
    refine ⟨_, rfl, b, l, 10, rfl, by decide, by decide, hB, fun d H1 hd0 hd1 e1 B1 => ?_⟩
    obtain ⟨j, rfl⟩ : ∃ j : Nat, d = (j : Int) := ⟨d.toNat, by omega⟩
    refine ⟨_, rfl, rfl, _, rfl, ?_⟩
    have dz : decide (V.int (j : Int) = V.int 9) = decide (j = 9) := decide_eq_decide.mpr ⟨fun e => by injection e with e; omega, fun e => by rw [e]; rfl⟩
    rw [dz]
    by_cases h9 : j = 9
    · rw [decide_eq_true h9]
      refine iteT ?_
      refine ⟨_, rfl, b, l, 3, rfl, by decide, by decide, B1, fun d2 H2 hd20 hd21 e2 B2 => ⟨_, _, rfl, rfl, ?_⟩⟩
      obtain ⟨m, rfl⟩ : ∃ m : Nat, d2 = (m : Int) := ⟨d2.toNat, by omega⟩
      exact k (6 + m) _ (by omega) (by omega) (e1.trans e2) B2
    · rw [decide_eq_false h9]
      refine iteF ?_
      refine ⟨(by show 9 ≤ sizeLine; decide), fun p hp => ?_⟩
      have hlist : ∃ n : Nat, 1 ≤ n ∧ n ≤ 8 ∧ ([V.int 3, V.int 4, V.int 2, V.int 5, V.int 3, V.int 4, V.int 1, V.int 5, V.int 4] : List V)[j]? = some (.int (n : Int)) := by
        have : j < 9 := by omega
        match j, this with
        | 0, _ => exact ⟨3, by decide, by decide, rfl⟩
        | 1, _ => exact ⟨4, by decide, by decide, rfl⟩
        | 2, _ => exact ⟨2, by decide, by decide, rfl⟩
        | 3, _ => exact ⟨5, by decide, by decide, rfl⟩
        | 4, _ => exact ⟨3, by decide, by decide, rfl⟩
        | 5, _ => exact ⟨4, by decide, by decide, rfl⟩
        | 6, _ => exact ⟨1, by decide, by decide, rfl⟩
        | 7, _ => exact ⟨5, by decide, by decide, rfl⟩
        | 8, _ => exact ⟨4, by decide, by decide, rfl⟩
      obtain ⟨n, hn1, hn2, hx⟩ := hlist
      have e2 : Stp (TB K) [] H1 _ := .new (o := .lst [V.int 3, V.int 4, V.int 2, V.int 5, V.int 3, V.int 4, V.int 1, V.int 5, V.int 4]) hp
      refine ⟨_, rfl, p, _, _, _, rfl, rfl, SqL.of upd_same, atI_nat hx, k n _ hn1 hn2 (e1.trans e2.wide) (B1.step e2)⟩) (g_law_many T)
end
end K3

namespace K3
open PySem PySem.Spec PyProof.Rows L2 LamX LK LB
section
variable {P : Program} {w : World} {K : PySem.W.Frag} {mg : Str → Option Value} {base : Heap}
def spBarred (Tb : TBs) : Sp := fun vs H Q _ => vs = [] ∧ ∀ p H', Nw H p → Stp Tb [] H H' → H' p = some (.lst (barred.map V.str)) → Q (.ref p) H'
theorem barred_split : Txt.split "put take by without first last ahead behind strict turn due share newest past copy to on with as of done" " " = barred := by decide +kernel
theorem cal_barred (T : Tx K mg base) : Cal P w K mg base 1 "_law_barred" (spBarred (TB K)) :=
  cal_mk (fn_law_barred T (k := 0) (fun vs H Q E ⟨e, _⟩ => by rw [e]; rfl) fun A outer s H vs Q E hr h => by
    obtain ⟨rfl, k⟩ := h
    refine ⟨_, (pss_one (ps_ret (pe_split pe_str pe_str))), ?_⟩
    refine ⟨⟨_, rfl⟩, _, _, rfl, rfl, by decide +kernel, by decide +kernel, fun p hp => k p _ (.of hp) (.new hp) ?_⟩
    rw [upd_same, barred_split]) (g_law_barred T)

def spNamed (Tb : TBs) : Sp := fun vs H Q _ => ∃ z : Str, vs = [.str z] ∧ z.length ≤ 1000 ∧ ∀ H', Stp Tb [] H H' → Q (.bl (isNm z)) H'
theorem cal_named (T : Tx K mg base) : Cal P w K mg base 2 "_law_named" (spNamed (TB K)) :=
  cal_mk (fn_law_named T (k := 1) (fun vs H Q E ⟨z, e, _⟩ => by rw [e]; rfl) fun A outer s H vs Q E hr h => by
    obtain ⟨z, rfl, hz, k⟩ := h
    have c_law_barred : Cal P w K mg base 1 "_law_barred" (spBarred (TB K)) := cal_barred T
    refine ⟨_, (pss_cons (ps_if (PW.pt (pw_or (pt_not (pt_val (pe_callB call_isi (by rfl) (n_isinstance T) (by decide +kernel) (pa_cons (pv 0) (pa_cons (pe_bltn (v := .ty "str") (u := .type "str") (by rfl) (n_str T) (by decide +kernel) rfl) pa_nil))))) (pw_or (pt_cmpR op_lt (pe_callB call_len_str (by rfl) (n_len T) (by decide +kernel) (pa_cons (pv 0) pa_nil)) pe_int (nomark _)) (pw_or (pt_cmpR op_gt (pe_callB call_len_str (by rfl) (n_len T) (by decide +kernel) (pa_cons (pv 0) pa_nil)) pe_int (nomark _)) (pw_or1 (pt_cmpR op_in_seq (pv 0) (pe_c0 c_law_barred hr (by omega) rfl) (by rfl))))))) (pss_one (ps_ret pe_bl)) pss_nil)
  (pss_cons (ps_for PassesOwn.never rfl (pi_range1 (by rfl) (n_range T) (pa_cons (pe_callB call_len_str (by rfl) (n_len T) (by decide +kernel) (pa_cons (pv 0) pa_nil)) pa_nil)) (pg_name (i := 1) sc_law_named.nd rfl (Or.inl rfl)) (pss_one (ps_if (PW.pt (pw_and (pt_cmpR op_notIn_sign (pe_ix ix_str (pv 0) (pv 1) (fun _ _ => rfl)) pe_str (by rfl)) (pw_and1 (PW.pt (pw_or (pt_cmpR op_eq (pv 1) pe_int (nomark _)) (pw_or1 (pt_cmpR op_notIn_sign (pe_ix ix_str (pv 0) (pv 1) (fun _ _ => rfl)) pe_str (by rfl)))))))) (pss_one (ps_ret pe_bl)) pss_nil)))
  (pss_one (ps_ret pe_bl)))), ?_⟩
    have hzL : z.length ≤ sizeLine := by rw [zL]; omega
    have no : ∀ H', Stp (TB K) [] H H' → isNm z = false → Q (.bl false) H' := fun H' e h => by
      have := k H' e
      rw [h] at this
      exact this
    refine ⟨_, rfl, .str z, .ty "str", .type "str", .type "str", true, rfl, .ty _, .base (.str _), rfl, _, rfl, ?_⟩
    refine iteF ?_
    refine ⟨_, rfl, z, rfl, hzL, _, _, rfl, rfl, _, rfl, ?_⟩
    by_cases h1 : z.length < 1
    · rw [decide_eq_true (by omega)]
      refine iteT ?_
      refine iteT ?_
      refine no _ .refl ?_
      rw [← Bool.not_eq_true, isNm_iff]
      rintro ⟨q, _⟩
      omega
    rw [decide_eq_false (by omega)]
    refine iteF ?_
    refine ⟨_, rfl, z, rfl, hzL, _, _, rfl, rfl, _, rfl, ?_⟩
    by_cases h8 : 8 < z.length
    · rw [decide_eq_true (by omega)]
      refine iteT ?_
      refine iteT ?_
      refine no _ .refl ?_
      rw [← Bool.not_eq_true, isNm_iff]
      rintro ⟨_, q, _⟩
      omega
    rw [decide_eq_false (by omega)]
    refine iteF ?_
    refine ⟨_, rfl, rfl, fun p H1 np e1 h1' => ⟨p, _, rfl, .inl (SqL.of h1'), rfl, flat_strs _, ?_⟩⟩
    refine ⟨_, rfl, ?_⟩
    rw [if_neg Bool.false_ne_true, inV_str]
    by_cases hb : z ∈ barred
    · rw [decide_eq_true hb]
      refine iteT ?_
      refine no _ e1 ?_
      rw [← Bool.not_eq_true, isNm_iff]
      rintro ⟨_, _, q, _⟩
      exact q hb
    rw [decide_eq_false hb]
    refine iteF ?_
    have hcl := len_cps z
    refine ⟨_, rfl, z, rfl, hzL, _, rfl, by omega, by omega, ?_⟩
    have ej : ((z.length : Nat) : Int).toNat = z.length := rfl
    rw [ej]
    refine for_range (fun i σ H' => ∃ (p1 : Option V), σ = [some (.str z), p1] ∧ H' = H1 ∧ ∀ (j c : Nat), j < i → z.cps.toList[j]? = some c → c ∈ letters ∨ (j ≠ 0 ∧ c ∈ digits)) ⟨none, rfl, rfl, fun j c h => absurd h (Nat.not_lt_zero _)⟩ ?_ ?_
    · rintro i σ H2 hi ⟨p1, rfl, rfl, hok⟩
      rw [Int.zero_add]
      have hi2 : i < z.cps.toList.length := by omega
      have hx : z.cps.toList[i]? = some (z.cps.toList[i]'hi2) := List.getElem?_eq_getElem hi2
      generalize z.cps.toList[i]'hi2 = c at hx
      refine ⟨_, rfl, _, rfl, z, _, c, rfl, rfl, hzL, atI_nat hx, c, _, rfl, rfl, ?_⟩
      refine ⟨_, rfl, ?_⟩
      rw [alpha_cps]
      by_cases hc : c ∈ letters
      · rw [decide_eq_true hc]
        refine iteF ?_
        refine iteF ?_
        refine ⟨_, rfl, rfl, fun j d hj hd => ?_⟩
        by_cases e : j < i
        · exact hok j d e hd
        · have : j = i := by omega
          subst this
          rw [hx] at hd
          injection hd with hd
          subst hd
          exact .inl hc
      · rw [decide_eq_false hc]
        refine iteT ?_
        have bad : ¬ (c ∈ letters ∨ (i ≠ 0 ∧ c ∈ digits)) → Q (.bl false) H2 := fun hbad => by
          refine no _ e1 ?_
          rw [← Bool.not_eq_true, isNm_iff]
          rintro ⟨_, _, _, q⟩
          exact hbad (q i c hx)
        refine ⟨_, rfl, rfl, _, rfl, ?_⟩
        have dz : decide (V.int (i : Int) = V.int 0) = decide (i = 0) := decide_eq_decide.mpr ⟨fun e => by injection e with e; omega, fun e => by rw [e]; rfl⟩
        rw [dz]
        by_cases h0 : i = 0
        · rw [decide_eq_true h0]
          refine iteT ?_
          refine iteT ?_
          exact bad fun q => q.elim hc fun q => q.1 h0
        · rw [decide_eq_false h0]
          refine iteF ?_
          refine ⟨_, rfl, _, rfl, z, _, c, rfl, rfl, hzL, atI_nat hx, c, _, rfl, rfl, ?_⟩
          refine ⟨_, rfl, ?_⟩
          rw [digit_cps]
          by_cases hd : c ∈ digits
          · rw [decide_eq_true hd]
            refine iteF ?_
            refine ⟨_, rfl, rfl, fun j d hj hd2 => ?_⟩
            by_cases e : j < i
            · exact hok j d e hd2
            · have : j = i := by omega
              subst this
              rw [hx] at hd2
              injection hd2 with hd2
              subst hd2
              exact .inr ⟨h0, hd⟩
          · rw [decide_eq_false hd]
            refine iteT ?_
            exact bad fun q => q.elim hc fun q => hd q.2
    · rintro σ H2 ⟨p1, rfl, rfl, hok⟩
      have hy : isNm z = true := isNm_iff.mpr ⟨by omega, by omega, hb, fun j c hc => hok j c (by
        rcases Nat.lt_or_ge j z.length with q | q
        · exact q
        · rw [List.getElem?_eq_none (by omega)] at hc
          cases hc) hc⟩
      have := k _ e1
      rw [hy] at this
      exact this) (g_law_named T)
end
end K3

namespace K3
open PySem PySem.Spec PyProof.Rows L2 LamX LK LB
section
variable {P : Program} {w : World} {K : PySem.W.Frag} {mg : Str → Option Value} {base : Heap}
def poolS : List Str := ["b", "a1", "a", "c9", "dd", "e", "f0x", "g"]
theorem pool_w : ∀ x ∈ poolS, IsW x 8 := by
  intro x m
  have h : ∀ x ∈ poolS, isNm x = true := by decide +kernel
  obtain ⟨h1, h2, h3, h4⟩ := isNm_iff.mp (h x m)
  exact ⟨h1, h2, h4⟩
theorem one_w {c : Nat} (h : c ∈ letters) : IsW ⟨#[c]⟩ 1 := ⟨Nat.le_refl 1, Nat.le_refl 1, fun j d hd => by
  cases j with
  | zero => simp at hd; rw [← hd]; exact .inl h
  | succ j => simp at hd⟩
theorem cps_one (c : Nat) : ((⟨#[c]⟩ : Str)).cps.toList = [c] := rfl
theorem cut6 (z : Str) : (cutS z none (some 6)).cps.toList = z.cps.toList.take 6 := by
  unfold cutS
  show ((z.cps.toList.drop 0).take (HT.sIx z.length z.length (some 6) - 0)) = _
  rw [List.drop_zero, Nat.sub_zero]
  have h : HT.sIx z.length z.length (some ((6 : Nat) : Int)) = min 6 z.length := HT.sIx_nat _ _ _
  rw [show (some (6 : Int)) = some ((6 : Nat) : Int) from rfl, h]
  have hl := len_cps z
  rcases Nat.le_total 6 z.length with q | q
  · rw [Nat.min_eq_left q]
  · rw [Nat.min_eq_right q, List.take_of_length_le (by omega), List.take_of_length_le (by omega)]
theorem a25 : ("abcdefghijklmnopqrstuvwxy" : Str).cps.toList = letters.take 25 := by decide +kernel
theorem a36 : ("abcdefghijklmnopqrstuvwxyz0123456789" : Str).cps.toList = letters ++ digits := by decide +kernel
def cand (wd stem : Str) : Nat → Str
  | 0 => wd
  | j + 1 => stem ++ toString ((j : Nat) : Int)
theorem small_log {j : Nat} (h : j < 1000) : ((j : Nat) : Int).natAbs.log2 < 1920 := by
  have h1 : ((j : Nat) : Int).natAbs = j := Int.natAbs_natCast j
  rw [h1]
  exact Nat.lt_of_le_of_lt (Nat.log2_le_self j) (by omega)
theorem cand_len {wd stem : Str} {j : Nat} (h : IsW wd 8) (h2 : IsW stem 6) (hj : j ≤ 60) : (cand wd stem j).length ≤ 900 := by
  cases j with
  | zero => exact Nat.le_trans h.len (by decide)
  | succ j =>
    show (stem ++ toString ((j : Nat) : Int)).length ≤ 900
    rw [lenA]
    have h3 := h2.len
    have h4 : ∀ i : Fin 60, ((toString ((i.val : Nat) : Int) : Str)).length ≤ 10 := by decide +kernel
    have := h4 ⟨j, by omega⟩
    simp only at this
    omega
def spNames (Tb : TBs) : Sp := fun vs H Q _ => ∃ (b l : Addr) (n : Nat), vs = [.ref b, .int (n : Int)] ∧ n ≤ 8 ∧ Bg H b l ∧
  ∀ (p : Addr) (ws : List Str) H', ws.length = n → ws.Nodup → (∀ x ∈ ws, isNm x = true) → Stp Tb [b] H H' → Bg H' b l → Nw H p → H' p = some (.lst (ws.map V.str)) → Q (.ref p) H'
theorem cal_names (T : Tx K mg base) : Cal P w K mg base 4 "_law_names" (spNames (TB K)) :=
  cal_mk (fn_law_names T (k := 3) (fun vs H Q E ⟨b, l, n, e, _⟩ => by rw [e]; rfl) fun A outer s H vs Q E hr h => by
    obtain ⟨b, l, n, rfl, hn, hB, k⟩ := h
    have c_law_draw : Cal P w K mg base 2 "_law_draw" (spDraw (TB K)) := cal_draw T
    have c_law_of : Cal P w K mg base 3 "_law_of" (spOf (TB K)) := cal_of T
    have c_law_named : Cal P w K mg base 2 "_law_named" (spNamed (TB K)) := cal_named T
    refine ⟨_, (pss_cons (ps_set (i := 2) sc_law_names.nd rfl (Or.inl rfl) (pe_lst (pa_cons pe_str (pa_cons pe_str (pa_cons pe_str (pa_cons pe_str (pa_cons pe_str (pa_cons pe_str (pa_cons pe_str (pa_cons pe_str pa_nil))))))))))
  (pss_cons (ps_set (i := 3) sc_law_names.nd rfl (Or.inl rfl) (pe_lst pa_nil))
  (pss_cons (ps_for PassesOwn.never rfl (pi_range1 (by rfl) (n_range T) (pa_cons (pv 1) pa_nil)) (pg_name (i := 4) sc_law_names.nd rfl (Or.inl rfl)) (pss_cons (ps_set (i := 5) sc_law_names.nd rfl (Or.inl rfl) (pe_c c_law_of hr (by omega) rfl (pa_cons (pv 0) (pa_cons (pv 2) pa_nil))))
  (pss_cons (ps_if (pt_cmpR op_eq (pe_c c_law_draw hr (by omega) rfl (pa_cons (pv 0) (pa_cons pe_int pa_nil))) pe_int (nomark _)) (pss_cons (ps_set (i := 5) sc_law_names.nd rfl (Or.inl rfl) (pe_ix ix_str pe_str (pe_c c_law_draw hr (by omega) rfl (pa_cons (pv 0) (pa_cons pe_int pa_nil))) (fun _ _ => rfl)))
  (pss_one (ps_for PassesOwn.never rfl (pi_range1 (by rfl) (n_range T) (pa_cons (pe_c c_law_of hr (by omega) rfl (pa_cons (pv 0) (pa_cons (pe_lst (pa_cons pe_int (pa_cons pe_int (pa_cons pe_int (pa_cons pe_int (pa_cons pe_int (pa_cons pe_int pa_nil))))))) pa_nil))) pa_nil)) (pg_name (i := 6) sc_law_names.nd rfl (Or.inl rfl)) (pss_one (ps_set (i := 5) sc_law_names.nd rfl (Or.inl rfl) (pe_op op_add_str (pv 5) (pe_ix ix_str pe_str (pe_c c_law_draw hr (by omega) rfl (pa_cons (pv 0) (pa_cons pe_int pa_nil))) (fun _ _ => rfl)))))))) pss_nil)
  (pss_cons (ps_set (i := 7) sc_law_names.nd rfl (Or.inl rfl) (pe_slice sl_str (pv 5) po_none (po_some pe_int)))
  (pss_cons (ps_for PassesOwn.never rfl (pi_range1 (by rfl) (n_range T) (pa_cons pe_int pa_nil)) (pg_name (i := 6) sc_law_names.nd rfl (Or.inl rfl)) (pss_cons (ps_if (PW.pt (pw_and (pt_cmpR op_notIn_seq (pv 5) (pv 3) (by rfl)) (pw_and1 (pt_val (pe_c c_law_named hr (by omega) rfl (pa_cons (pv 5) pa_nil)))))) (pss_one ps_break) pss_nil)
  (pss_one (ps_set (i := 5) sc_law_names.nd rfl (Or.inl rfl) (pe_op op_add_str (pv 7) (pe_callTy call_str_int (by rfl) (n_str T) (by decide +kernel) (pa_cons (pv 6) pa_nil)))))))
  (pss_one (ps_expr (pe_bm PySem.F.plainAttrs_list PySem.F.slot_list_append PySem.F.type_list_append mt_append (pv 3) (pa_cons (pv 5) pa_nil)))))))))
  (pss_one (ps_ret (pv 3)))))), ?_⟩
    refine ⟨(by show 8 ≤ sizeLine; decide), fun pl hpl => ?_⟩
    refine ⟨(by show 0 ≤ sizeLine; decide), fun kn hkn => ?_⟩
    have e0 : Stp (TB K) [] H (upd (upd H pl (.lst (poolS.map V.str))) kn (.lst [])) := (Stp.new hpl).alloc hkn
    have hpk : pl ≠ kn := ne_of_none upd_same hkn
    have n0 : Nw H pl := .of hpl
    have n1 : Nw H kn := (Nw.of hkn).back (T := TB K) (.new hpl)
    have nb0 := hB.nb n0
    have nb1 := hB.nb n1
    have hp0 : (upd (upd H pl (.lst (poolS.map V.str))) kn (.lst [])) pl = some (.lst (poolS.map V.str)) := by rw [upd_ne hpk]; exact upd_same
    refine ⟨_, rfl, _, rfl, by omega, by omega, ?_⟩
    have ej : ((n : Nat) : Int).toNat = n := rfl
    rw [ej]
    refine for_range (fun i σ H' => ∃ (p4 p5 p6 p7 : Option V) (ws : List Str), σ = [some (.ref b), some (.int (n : Int)), some (.ref pl), some (.ref kn), p4, p5, p6, p7] ∧ Stp (TB K) [b] H H' ∧ Bg H' b l ∧ H' pl = some (.lst (poolS.map V.str)) ∧ H' kn = some (.lst (ws.map V.str)) ∧ ws.length = i ∧ ws.Nodup ∧ ∀ x ∈ ws, isNm x = true)
      ⟨none, none, none, none, [], rfl, e0.wide, hB.step e0, hp0, upd_same, rfl, .nil, fun x m => by cases m⟩ ?_ ?_
    · rintro i σ H1 hi ⟨p4, p5, p6, p7, ws, rfl, e1, B1, h1, h2, hwl, hnd, hnm⟩
      refine ⟨_, rfl, _, rfl, b, l, pl, _, rfl, h1, nb0.1.symm, by decide, by decide, B1, fun i0 x H2 hx e2 B2 => ?_⟩
      obtain ⟨w0, hw0, rfl⟩ : ∃ z, poolS[i0]? = some z ∧ V.str z = x := by
        rw [List.getElem?_map] at hx
        cases ez : poolS[i0]? with
        | none => rw [ez] at hx; cases hx
        | some z => rw [ez] at hx; exact ⟨z, rfl, by injection hx⟩
      have W0 := pool_w w0 (List.mem_of_getElem? hw0)
      have h1b := e2.get h1 trivial (by simpa using nb0.1.symm)
      have h2b := e2.get h2 trivial (by simpa using nb1.1.symm)
      refine ⟨_, rfl, b, l, 2, rfl, by decide, by decide, B2, fun d H3 hd0 hd1 e3 B3 => ?_⟩
      refine ⟨rfl, _, rfl, ?_⟩
      have h1c := e3.get h1b trivial (by simpa using nb0.1.symm)
      have h2c := e3.get h2b trivial (by simpa using nb1.1.symm)
      have e13 := (e1.trans e2).trans e3
      by_cases hd : d = 1
      · rw [decide_eq_true (by rw [hd])]
        refine iteT ?_
        refine ⟨_, rfl, b, l, 25, rfl, by decide, by decide, B3, fun d2 H4 hd20 hd21 e4 B4 => ?_⟩
        obtain ⟨j2, rfl⟩ : ∃ j : Nat, d2 = (j : Int) := ⟨d2.toNat, by omega⟩
        have hj2 : j2 < ("abcdefghijklmnopqrstuvwxy" : Str).cps.toList.length := by rw [a25]; show j2 < 25; omega
        obtain ⟨c, hc⟩ : ∃ c, ("abcdefghijklmnopqrstuvwxy" : Str).cps.toList[j2]? = some c := ⟨_, List.getElem?_eq_getElem hj2⟩
        have hcl : c ∈ letters := by
          have := List.mem_of_getElem? hc
          rw [a25] at this
          exact List.mem_of_mem_take this
        refine ⟨_, _, c, rfl, rfl, by decide +kernel, atI_nat hc, ?_⟩
        have h1d := e4.get h1c trivial (by simpa using nb0.1.symm)
        have h2d := e4.get h2c trivial (by simpa using nb1.1.symm)
        refine ⟨_, rfl, (by show 6 ≤ sizeLine; decide), fun l6 hl6 => ?_⟩
        have e45 : Stp (TB K) [] H4 (upd H4 l6 (.lst ([0, 1, 0, 2, 3, 7].map V.int))) := .new hl6
        have B45 := B4.step e45
        have nb6 := B4.nb (.of hl6)
        refine ⟨b, l, l6, _, rfl, upd_same, nb6.1.symm, by decide, by decide, B45, fun i6 x6 H5 hx6 e5 B5 => ?_⟩
        obtain ⟨r, hr7, rfl⟩ : ∃ r : Nat, r ≤ 7 ∧ x6 = .int (r : Int) := by
          have hi6 : i6 < 6 := by
            rcases Nat.lt_or_ge i6 6 with q | q
            · exact q
            · rw [List.getElem?_eq_none (by exact q)] at hx6
              cases hx6
          match i6, hi6 with
          | 0, _ => exact ⟨0, by decide, by injection hx6 with hx6; exact hx6.symm⟩
          | 1, _ => exact ⟨1, by decide, by injection hx6 with hx6; exact hx6.symm⟩
          | 2, _ => exact ⟨0, by decide, by injection hx6 with hx6; exact hx6.symm⟩
          | 3, _ => exact ⟨2, by decide, by injection hx6 with hx6; exact hx6.symm⟩
          | 4, _ => exact ⟨3, by decide, by injection hx6 with hx6; exact hx6.symm⟩
          | 5, _ => exact ⟨7, by decide, by injection hx6 with hx6; exact hx6.symm⟩
        have h1e := e5.get (e45.get0 h1d trivial) trivial (by simpa using nb0.1.symm)
        have h2e := e5.get (e45.get0 h2d trivial) trivial (by simpa using nb1.1.symm)
        have e15 := ((e13.trans e4).trans e45.wide).trans e5
        refine ⟨_, rfl, by omega, by omega, ?_⟩
        have ej2 : ((r : Nat) : Int).toNat = r := rfl
        rw [ej2]
        refine for_range (fun j σ H' => ∃ (q6 : Option V) (wd : Str), σ = [some (.ref b), some (.int (n : Int)), some (.ref pl), some (.ref kn), some (.int (0 + (i : Int))), some (.str wd), q6, p7] ∧ Stp (TB K) [b] H H' ∧ Bg H' b l ∧ H' pl = some (.lst (poolS.map V.str)) ∧ H' kn = some (.lst (ws.map V.str)) ∧ IsW wd (1 + j))
          ⟨_, _, rfl, e15, B5, h1e, h2e, one_w hcl⟩ ?_ ?_
        · rintro j σ H6 hj ⟨q6, wd, rfl, e6, B6, k1, k2, W⟩
          refine ⟨_, rfl, _, rfl, b, l, 36, rfl, by decide, by decide, B6, fun d3 H7 hd30 hd31 e7 B7 => ?_⟩
          obtain ⟨j3, rfl⟩ : ∃ j : Nat, d3 = (j : Int) := ⟨d3.toNat, by omega⟩
          have hj3 : j3 < ("abcdefghijklmnopqrstuvwxyz0123456789" : Str).cps.toList.length := by rw [a36]; show j3 < 36; omega
          obtain ⟨c3, hc3⟩ : ∃ c, ("abcdefghijklmnopqrstuvwxyz0123456789" : Str).cps.toList[j3]? = some c := ⟨_, List.getElem?_eq_getElem hj3⟩
          have hcl3 : c3 ∈ letters ∨ c3 ∈ digits := by
            have := List.mem_of_getElem? hc3
            rw [a36] at this
            exact List.mem_append.mp this
          have W2 := W.snoc (cps_one c3) hcl3
          have hl1 := W.len
          refine ⟨_, _, c3, rfl, rfl, by decide +kernel, atI_nat hc3, _, _, rfl, rfl, ?_, ?_⟩
          · have : (⟨#[c3]⟩ : Str).length = 1 := rfl
            rw [this, zL]
            omega
          · exact ⟨_, _, rfl, e6.trans e7, B7, e7.get k1 trivial (by simpa using nb0.1.symm), e7.get k2 trivial (by simpa using nb1.1.symm), by rw [Nat.add_comm 1 (j + 1), Nat.add_comm j 1]; exact W2⟩
        · rintro σ H6 ⟨q6, wd, rfl, e5, B5, g1, g2, W⟩
          replace W := W.mono (show 1 + r ≤ 8 by omega)
          have hwl8 := W.len
          refine ⟨_, rfl, _, rfl, wd, rfl, by rw [zL]; omega, ?_⟩
          have W6 : IsW (cutS wd none (some 6)) 6 := W.cut (cut6 wd) (by decide)
          generalize cutS wd none (some 6) = stem at W6
          refine ⟨_, rfl, by decide, by decide, ?_⟩
          refine for_range (fun j σ H' => ∃ (q4 q6 : Option V), σ = [some (.ref b), some (.int (n : Int)), some (.ref pl), some (.ref kn), q4, some (.str (cand wd stem j)), q6, some (.str stem)] ∧ Stp (TB K) [b] H H' ∧ Bg H' b l ∧ H' pl = some (.lst (poolS.map V.str)) ∧ H' kn = some (.lst (ws.map V.str)) ∧ ∀ m, m < j → (cand wd stem m ∈ ws ∨ isNm (cand wd stem m) = false))
            ⟨_, _, rfl, e5, B5, g1, g2, fun m h => absurd h (Nat.not_lt_zero _)⟩ ?_ ?_
          · rintro j σ H6 hj ⟨q4, q6, rfl, e6, B6, k1, k2, hno⟩
            rw [Int.zero_add]
            have hj60 : j < 60 := hj
            have step : ∀ (H7 : Hp), Stp (TB K) [] H6 H7 → (cand wd stem j ∈ ws ∨ isNm (cand wd stem j) = false) →
                (fun σ H' => ∃ (q4 q6 : Option V), σ = [some (.ref b), some (.int (n : Int)), some (.ref pl), some (.ref kn), q4, some (.str (cand wd stem (j + 1))), q6, some (.str stem)] ∧ Stp (TB K) [b] H H' ∧ Bg H' b l ∧ H' pl = some (.lst (poolS.map V.str)) ∧ H' kn = some (.lst (ws.map V.str)) ∧ ∀ m, m < j + 1 → (cand wd stem m ∈ ws ∨ isNm (cand wd stem m) = false))
                  [some (.ref b), some (.int (n : Int)), some (.ref pl), some (.ref kn), q4, some (.str (stem ++ toString ((j : Nat) : Int))), some (.int ((j : Nat) : Int)), some (.str stem)] H7 := fun H7 e7 hb => by
              refine ⟨_, _, rfl, e6.trans e7.wide, B6.step e7, e7.get0 k1 trivial, e7.get0 k2 trivial, fun m hm => ?_⟩
              by_cases e : m < j
              · exact hno m e
              · have : m = j := by omega
                rw [this]
                exact hb
            have slen : (stem ++ toString ((j : Nat) : Int) : Str).length ≤ 900 := cand_len (j := j + 1) W W6 (by omega)
            rw [lenA] at slen
            refine ⟨_, rfl, _, rfl, kn, _, rfl, .inl (SqL.of k2), rfl, flat_strs _, ?_⟩
            refine ⟨_, rfl, ?_⟩
            rw [if_pos rfl, inV_str]
            by_cases hm : cand wd stem j ∈ ws
            · rw [decide_eq_true hm]
              refine iteF ?_
              refine iteF ?_
              refine ⟨_, rfl, _, rfl, _, rfl, small_log (by omega), _, _, rfl, rfl, by rw [zL]; omega, ?_⟩
              exact step H6 .refl (.inl hm)
            · rw [decide_eq_false hm]
              refine iteT ?_
              refine ⟨_, rfl, _, rfl, Nat.le_trans (cand_len W W6 (by omega)) (by decide), fun H7 e7 => ?_⟩
              refine ⟨_, rfl, ?_⟩
              cases hn2 : isNm (cand wd stem j) with
              | false =>
                refine iteF ?_
                refine ⟨_, rfl, _, rfl, _, rfl, small_log (by omega), _, _, rfl, rfl, by rw [zL]; omega, ?_⟩
                exact step H7 e7 (.inr hn2)
              | true =>
                refine iteT ?_
                have k27 := e7.get0 k2 trivial
                refine ⟨_, rfl, .inl ⟨rfl, _, SqL.of k27⟩, _, rfl, kn, _, _, rfl, rfl, k27, by rw [List.length_map, zL]; omega, ?_⟩
                refine ⟨_, _, _, _, ws ++ [cand wd stem j], rfl, (e6.trans e7.wide).mut (.inl n1) k27 trivial, (B6.step e7).upd nb1.1 nb1.2, ?_, ?_, by rw [List.length_append, hwl]; rfl, ?_, ?_⟩
                · rw [upd_ne hpk]
                  exact e7.get0 k1 trivial
                · rw [upd_same, List.map_append]
                  rfl
                · rw [List.nodup_append]
                  refine ⟨hnd, (by simp), fun x m y m2 => ?_⟩
                  rw [List.mem_singleton.mp m2]
                  rintro rfl
                  exact hm m
                · intro x m
                  rcases List.mem_append.mp m with m | m
                  · exact hnm x m
                  · rw [List.mem_singleton.mp m]
                    exact hn2
          · rintro σ H6 ⟨q4, q6, rfl, e6, B6, k1, k2, hno⟩
            exact absurd (fun j hj => hno (j + 1) (by omega)) (fresh_cand W6 (by omega))
      · rw [decide_eq_false (fun e => hd (by injection e))]
        refine iteF ?_
        have e5 := e13
        have B5 := B3
        have g1 := h1c
        have g2 := h2c
        have W := W0
        generalize w0 = wd at W ⊢
        have hwl8 := W.len
        refine ⟨_, rfl, _, rfl, wd, rfl, by rw [zL]; omega, ?_⟩
        have W6 : IsW (cutS wd none (some 6)) 6 := W.cut (cut6 wd) (by decide)
        generalize cutS wd none (some 6) = stem at W6
        refine ⟨_, rfl, by decide, by decide, ?_⟩
        refine for_range (fun j σ H' => ∃ (q4 q6 : Option V), σ = [some (.ref b), some (.int (n : Int)), some (.ref pl), some (.ref kn), q4, some (.str (cand wd stem j)), q6, some (.str stem)] ∧ Stp (TB K) [b] H H' ∧ Bg H' b l ∧ H' pl = some (.lst (poolS.map V.str)) ∧ H' kn = some (.lst (ws.map V.str)) ∧ ∀ m, m < j → (cand wd stem m ∈ ws ∨ isNm (cand wd stem m) = false))
          ⟨_, _, rfl, e5, B5, g1, g2, fun m h => absurd h (Nat.not_lt_zero _)⟩ ?_ ?_
        · rintro j σ H6 hj ⟨q4, q6, rfl, e6, B6, k1, k2, hno⟩
          rw [Int.zero_add]
          have hj60 : j < 60 := hj
          have step : ∀ (H7 : Hp), Stp (TB K) [] H6 H7 → (cand wd stem j ∈ ws ∨ isNm (cand wd stem j) = false) →
              (fun σ H' => ∃ (q4 q6 : Option V), σ = [some (.ref b), some (.int (n : Int)), some (.ref pl), some (.ref kn), q4, some (.str (cand wd stem (j + 1))), q6, some (.str stem)] ∧ Stp (TB K) [b] H H' ∧ Bg H' b l ∧ H' pl = some (.lst (poolS.map V.str)) ∧ H' kn = some (.lst (ws.map V.str)) ∧ ∀ m, m < j + 1 → (cand wd stem m ∈ ws ∨ isNm (cand wd stem m) = false))
                [some (.ref b), some (.int (n : Int)), some (.ref pl), some (.ref kn), q4, some (.str (stem ++ toString ((j : Nat) : Int))), some (.int ((j : Nat) : Int)), some (.str stem)] H7 := fun H7 e7 hb => by
            refine ⟨_, _, rfl, e6.trans e7.wide, B6.step e7, e7.get0 k1 trivial, e7.get0 k2 trivial, fun m hm => ?_⟩
            by_cases e : m < j
            · exact hno m e
            · have : m = j := by omega
              rw [this]
              exact hb
          have slen : (stem ++ toString ((j : Nat) : Int) : Str).length ≤ 900 := cand_len (j := j + 1) W W6 (by omega)
          rw [lenA] at slen
          refine ⟨_, rfl, _, rfl, kn, _, rfl, .inl (SqL.of k2), rfl, flat_strs _, ?_⟩
          refine ⟨_, rfl, ?_⟩
          rw [if_pos rfl, inV_str]
          by_cases hm : cand wd stem j ∈ ws
          · rw [decide_eq_true hm]
            refine iteF ?_
            refine iteF ?_
            refine ⟨_, rfl, _, rfl, _, rfl, small_log (by omega), _, _, rfl, rfl, by rw [zL]; omega, ?_⟩
            exact step H6 .refl (.inl hm)
          · rw [decide_eq_false hm]
            refine iteT ?_
            refine ⟨_, rfl, _, rfl, Nat.le_trans (cand_len W W6 (by omega)) (by decide), fun H7 e7 => ?_⟩
            refine ⟨_, rfl, ?_⟩
            cases hn2 : isNm (cand wd stem j) with
            | false =>
              refine iteF ?_
              refine ⟨_, rfl, _, rfl, _, rfl, small_log (by omega), _, _, rfl, rfl, by rw [zL]; omega, ?_⟩
              exact step H7 e7 (.inr hn2)
            | true =>
              refine iteT ?_
              have k27 := e7.get0 k2 trivial
              refine ⟨_, rfl, .inl ⟨rfl, _, SqL.of k27⟩, _, rfl, kn, _, _, rfl, rfl, k27, by rw [List.length_map, zL]; omega, ?_⟩
              refine ⟨_, _, _, _, ws ++ [cand wd stem j], rfl, (e6.trans e7.wide).mut (.inl n1) k27 trivial, (B6.step e7).upd nb1.1 nb1.2, ?_, ?_, by rw [List.length_append, hwl]; rfl, ?_, ?_⟩
              · rw [upd_ne hpk]
                exact e7.get0 k1 trivial
              · rw [upd_same, List.map_append]
                rfl
              · rw [List.nodup_append]
                refine ⟨hnd, (by simp), fun x m y m2 => ?_⟩
                rw [List.mem_singleton.mp m2]
                rintro rfl
                exact hm m
              · intro x m
                rcases List.mem_append.mp m with m | m
                · exact hnm x m
                · rw [List.mem_singleton.mp m]
                  exact hn2
        · rintro σ H6 ⟨q4, q6, rfl, e6, B6, k1, k2, hno⟩
          exact absurd (fun j hj => hno (j + 1) (by omega)) (fresh_cand W6 (by omega))
    · rintro σ H1 ⟨p4, p5, p6, p7, ws, rfl, e1, B1, h1, h2, hwl, hnd, hnm⟩
      exact ⟨_, rfl, k kn ws H1 hwl hnd hnm e1 B1 n1 h2⟩) (g_law_names T)
end
end K3

namespace K3
open PySem PySem.Spec PyProof.Rows L2 LamX LK LB
theorem allLeaf_ok {ts : List Tr} (h : ∀ t ∈ ts, ∃ w f, t = Tr.leaf w f ∧ isNm w = true) : goodL ts ∧ normL ts := by
  refine ⟨goodL_mem.mpr fun t m => ?_, normL_mem.mpr fun t m => ?_⟩
  · obtain ⟨w, f, rfl, h⟩ := h t m
    exact h
  · obtain ⟨w, f, rfl, h⟩ := h t m
    trivial
section
variable {P : Program} {w : World} {K : PySem.W.Frag} {mg : Str → Option Value} {base : Heap}
def spLeaves (Tb : TBs) : Sp := fun vs H Q _ => ∃ (b l wl : Addr) (ws : List Str), vs = [.ref b, .ref wl] ∧ H wl = some (.lst (ws.map V.str)) ∧ wl ≠ b ∧ ws.length < 1000 ∧ (∀ x ∈ ws, isNm x = true) ∧ Bg H b l ∧
  ∀ (p : Addr) (us : List V) (ts : List Tr) H', Stp Tb [b] H H' → Bg H' b l → Nw H p → H' p = some (.lst us) → RTs H' us ts → underL ts = ws → goodL ts → normL ts → Q (.ref p) H'
theorem str_of_map {ws : List Str} {i : Nat} {x : V} (h : (ws.map V.str)[i]? = some x) : ∃ z, ws[i]? = some z ∧ x = .str z := by
  rw [List.getElem?_map] at h
  cases ez : ws[i]? with
  | none => rw [ez] at h; cases h
  | some z => rw [ez] at h; exact ⟨z, rfl, by injection h with h; exact h.symm⟩
theorem cal_leaves (T : Tx K mg base) : Cal P w K mg base 3 "_law_leaves" (spLeaves (TB K)) :=
  cal_mk (fn_law_leaves T (k := 2) (fun vs H Q E ⟨b, l, wl, ws, e, _⟩ => by rw [e]; rfl) fun A outer s H vs Q E hr h => by
    obtain ⟨b, l, wl, ws, rfl, hw, hwb, hwl, hnm, hB, k⟩ := h
    have c_law_draw : Cal P w K mg base 2 "_law_draw" (spDraw (TB K)) := cal_draw T
    refine ⟨_, (pss_cons (ps_set (i := 2) sc_law_leaves.nd rfl (Or.inr rfl) (pe_cmpR op_eq (pe_c c_law_draw hr (by omega) rfl (pa_cons (pv 0) (pa_cons pe_int pa_nil))) pe_int (nomark _)))
  (pss_one (ps_ret (pe_lc (own := [("word", 3)]) (g := gName 3) (tt := tYes) rfl sc_law_leaves.nd (pi_list (pv 1)) (blkOk_by (own := [("word", 3)]) (N := N_law_leaves) (sc := defScope s_law_leaves) (by decide +kernel)) (fun _ _ _ _ _ => (pg_name (i := 3) sc_law_leaves.nd rfl (Or.inl rfl))) (fun _ _ _ _ _ => pts_nil) (fun _ _ _ _ _ => (pe_tup (pa_cons (pv 3) (pa_cons (pe_not (pe_and (pv 2) (pe_one (pe_cmpR op_eq (pe_c c_law_draw hr (by omega) rfl (pa_cons (pv 0) (pa_cons pe_int pa_nil))) pe_int (nomark _))))) pa_nil)))))))), ?_⟩
    refine ⟨_, rfl, b, l, 3, rfl, by decide, by decide, hB, fun d H1 hd0 hd1 e1 B1 => ?_⟩
    refine ⟨rfl, ?_⟩
    have hw1 := e1.get hw trivial (by simpa using hwb)
    generalize decide (V.int d = V.int 1) = some1
    refine ⟨_, rfl, wl, rfl, ⟨_, SqL.of hw1⟩, fun D hD => ?_⟩
    have nD := B1.nb (.of hD)
    refine lc_accY (T := TB K) (B := [b]) walk_list (fun i x => (ws.map V.str)[i]? = some x) (fun i H x H' h => h) (fun H => Bg H b l) e1 hD (by simpa using nD.1.symm) (by rw [List.length_map, zL]; omega)
      (fun i H acc => ∃ ts, RTs H acc ts ∧ underL ts = ws.take i ∧ ∀ t ∈ ts, ∃ w f, t = Tr.leaf w f ∧ isNm w = true) (fun H => ⟨[], .nil, rfl, fun t m => by cases m⟩) (fun i H H' acc e ⟨ts, h1, h2⟩ => ⟨ts, h1.tup e, h2⟩) B1 (fun H o B => B.upd nD.1 nD.2)
      (fun H e _ => SqL.of (e.get hw trivial (by simpa using hwb))) ?_ ?_
    · intro i x H2 Nx hi hx e2 B2 kk
      obtain ⟨z, hz, rfl⟩ := str_of_map hx
      have fin : ∀ (f : Bool) (H3 : Hp), Stp (TB K) [b] H2 H3 → Bg H3 b l → ∀ p, H3 p = none → ∃ acc, (upd H3 p (.tup [.str z, .bl f])) D = some (.lst acc) ∧ acc.length < sizeLine ∧ Nx (upd (upd H3 p (.tup [.str z, .bl f])) D (.lst (acc ++ [.ref p]))) := by
        intro f H3 e3 B3 p hp
        have e4 : Stp (TB K) [b] H2 (upd H3 p (.tup [.str z, .bl f])) := e3.alloc hp
        refine kk (.ref p) _ e4 (B3.step (T := TB K) (.new hp)) fun acc _ ⟨ts, h1, h2, h3⟩ => ⟨ts ++ [.leaf z f], (h1.tup (e4.tup B2.lsts)).append (.cons (.leaf upd_same) .nil), ?_, ?_⟩
        · rw [underL_append, h2, take_snoc hz]
          rfl
        · intro t m
          rcases List.mem_append.mp m with m | m
          · exact h3 t m
          · rw [List.mem_singleton.mp m]
            exact ⟨z, f, rfl, hnm z (List.mem_of_getElem? hz)⟩
      refine ⟨rfl, _, rfl, _, rfl, _, rfl, ?_⟩
      cases some1 with
      | false =>
        refine iteF ?_
        exact ⟨_, rfl, (by show 2 ≤ sizeLine; decide), fun p hp => fin _ H2 .refl B2 p hp⟩
      | true =>
        refine iteT ?_
        refine ⟨_, rfl, b, l, 4, rfl, by decide, by decide, B2, fun d2 H3 hd20 hd21 e3 B3 => ?_⟩
        refine ⟨rfl, _, rfl, (by show 2 ≤ sizeLine; decide), fun p hp => fin _ H3 e3 B3 p hp⟩
    · intro H' ys e2 B2 hD2 ⟨ts, h1, h2, h3⟩
      rw [List.length_map, List.take_length] at h2
      obtain ⟨g, n⟩ := allLeaf_ok h3
      exact k D ys ts H' e2 B2 ((Nw.of hD).backB e1 (by simpa using nD.1.symm)) hD2 h1 h2 g n) (g_law_leaves T)
end
end K3

namespace K3
open PySem PySem.Spec PyProof.Rows L2 LamX LK LB
/-- a tree that stays: good, in order, its names distinct, at most eight -/
structure TOk (t : Tr) : Prop where
  good : t.good
  norm : t.norm
  nd : t.under.Nodup
  lv : t.lv ≤ 8
theorem TOk.of {t t' : Tr} (o : TOk t) (g : t'.good) (n : t'.norm) (p : t'.under.Perm t.under) : TOk t' := by
  refine ⟨g, n, p.nodup_iff.mpr o.nd, ?_⟩
  have := p.length_eq
  rw [under_len, under_len] at this
  have := o.lv
  omega
theorem TOk.hgt {t : Tr} (o : TOk t) : t.hgt ≤ 7 := by
  have := hgt_lv o.good
  have := o.lv
  omega
section
variable {P : Program} {w : World} {K : PySem.W.Frag} {mg : Str → Option Value} {base : Heap}
def rLenQ (K : PySem.W.Frag) : List V → Hp → VK → Prop := fun vs H Q => ∃ p xs, vs = [V.ref p] ∧ (SqL K H p xs ∨ SqT K H p xs) ∧ Q (.int xs.length) H
def spTree (Tb : TBs) : Sp := fun vs H Q _ => ∃ (b l a : Addr) (us : List V) (ts : List Tr), vs = [.ref b, .ref a] ∧ H a = some (.lst us) ∧ RTs H us ts ∧ a ≠ b ∧ goodL ts ∧ normL ts ∧ 1 ≤ ts.length ∧ lvL ts ≤ 8 ∧ Tabs Tb H ∧ Bg H b l ∧
  ∀ (v : V) (t : Tr) H', Stp Tb [b] H H' → Bg H' b l → RT H' v t → t.good → t.norm → t.under.Perm (underL ts) → Q v H'
theorem cal_tree (T : Tx K mg base) : Cal P w K mg base 70 "_law_tree" (spTree (TB K)) :=
  cal_mk (fn_law_tree T (k := 69) (fun vs H Q E ⟨b, l, a, us, ts, e, _⟩ => by rw [e]; rfl) fun A outer s H vs Q E hr h => by
    obtain ⟨b, l, a, us, ts, rfl, ha, hR, hab, hg, hn, h1, hv, hT, hB, k⟩ := h
    have c_law_of : Cal P w K mg base 3 "_law_of" (spOf (TB K)) := cal_of T
    have c_law_group : Cal P w K mg base 69 "_law_group" (spGroup (TB K)) := cal_group T
    refine ⟨_, (pss_cons (ps_set (i := 2) sc_law_tree.nd rfl (Or.inr rfl) (pe_callTy call_list_of (by rfl) (n_list T) (by decide +kernel) (pa_cons (pv 1) pa_nil)))
  (pss_cons (ps_for PassesOwn.never rfl (pi_range1 (by rfl) (n_range T) (pa_cons (pe_callB call_len_seq (by rfl) (n_len T) (by decide +kernel) (pa_cons (pv 1) pa_nil)) pa_nil)) (pg_name (i := 3) sc_law_tree.nd rfl (Or.inr rfl)) (pss_cons (ps_if (pt_cmpR op_lt (pe_callB call_len_seq (by rfl) (n_len T) (by decide +kernel) (pa_cons (pv 2) pa_nil)) pe_int (nomark _)) (pss_one ps_break) pss_nil)
  (pss_cons (ps_set (i := 4) sc_law_tree.nd rfl (Or.inl rfl) (pe_callB (call_min2 rfl) (by rfl) (n_min T) (by decide +kernel) (pa_cons (pe_c c_law_of hr (by omega) rfl (pa_cons (pv 0) (pa_cons (pe_lst (pa_cons pe_int (pa_cons pe_int (pa_cons pe_int (pa_cons pe_int (pa_cons pe_int (pa_cons pe_int (pa_cons pe_int (pa_cons pe_int pa_nil))))))))) pa_nil))) (pa_cons (pe_callB call_len_seq (by rfl) (n_len T) (by decide +kernel) (pa_cons (pv 2) pa_nil)) pa_nil))))
  (pss_cons (ps_if (PW.pt (pw_and (pt_cmpR op_gt (pe_callB call_len_seq (by rfl) (n_len T) (by decide +kernel) (pa_cons (pv 1) pa_nil)) pe_int (nomark _)) (pw_and1 (pt_cmpR op_lt (pv 3) pe_int (nomark _))))) (pss_one (ps_set (i := 4) sc_law_tree.nd rfl (Or.inl rfl) pe_int)) pss_nil)
  (pss_cons (ps_set (i := 5) sc_law_tree.nd rfl (Or.inl rfl) (pe_lst pa_nil))
  (pss_cons (ps_for PassesOwn.never rfl (pi_range1 (by rfl) (n_range T) (pa_cons (pv 4) pa_nil)) (pg_name (i := 6) sc_law_tree.nd rfl (Or.inl rfl)) (pss_cons (ps_setLc (i := 7) (own := [("j", 8)]) (g := gName 8) rfl sc_law_tree.nd rfl rfl (sw_true rfl rfl rfl (by decide +kernel)) (pi_range1 (by rfl) (n_range T) (pa_cons (pe_callB call_len_seq (by rfl) (n_len T) (by decide +kernel) (pa_cons (pv 2) pa_nil)) pa_nil)) (blkOk_by (own := [("j", 8)]) (N := N_law_tree) (sc := defScope s_law_tree) (by decide +kernel)) (fun _ _ _ _ _ => (pg_name (i := 8) sc_law_tree.nd rfl (Or.inl rfl))) (fun _ _ _ _ _ => pts_one (PW.pt (pw_or (pt_cmpR op_ne (pe_ix (r := rIxT K) ix_tup (pe_ix (r := rIxL K) ix_list (pv 2) (pv 8) (fun _ _ => rfl)) pe_int (fun _ _ => rfl)) pe_str (nomark _)) (pw_or (pt_cmpR op_lt (pe_callB (r := rLenQ K) call_len_seq (by rfl) (n_len T) (by decide +kernel) (pa_cons (pv 1) pa_nil)) pe_int (nomark _)) (pw_or1 (pt_cmpR op_gt (pv 3) pe_int (nomark _))))))) (fun _ _ _ _ _ => (pv 8)))
  (pss_one (ps_expr (pe_bm PySem.F.plainAttrs_list PySem.F.slot_list_append PySem.F.type_list_append mt_append (pv 5) (pa_cons (pe_bm PySem.F.plainAttrs_list PySem.F.slot_list_pop PySem.F.type_list_pop mt_popAt (pv 2) (pa_cons (pe_c c_law_of hr (by omega) rfl (pa_cons (pv 0) (pa_cons (pv 7) pa_nil))) pa_nil)) pa_nil))))))
  (pss_one (ps_expr (pe_bm PySem.F.plainAttrs_list PySem.F.slot_list_append PySem.F.type_list_append mt_append (pv 2) (pa_cons (pe_c c_law_group hr (by omega) rfl (pa_cons (pv 5) pa_nil)) pa_nil))))))))))
  (pss_one (ps_ret (pe_ix ix_list (pv 2) pe_int (fun _ _ => rfl)))))), ?_⟩
    have hlv := len_lv hg
    have hus := hR.length
    refine ⟨_, rfl, a, us, rfl, .inl (SqL.of ha), fun nd hnd => ?_⟩
    have e0 : Stp (TB K) [] H (upd H nd (.lst us)) := .new hnd
    have nnd : Nw H nd := .of hnd
    have nbd := hB.nb nnd
    have had : a ≠ nd := ne_of_none ha hnd
    refine ⟨_, rfl, a, us, rfl, .inl (SqL.of (e0.get0 ha trivial)), ?_⟩
    rw [hus]
    refine ⟨_, rfl, by omega, by omega, ?_⟩
    have ej : ((ts.length : Nat) : Int).toNat = ts.length := rfl
    rw [ej]
    refine for_range (fun i σ H' => ∃ (p3 p4 p5 p6 p7 : Option V) (vs : List V) (ss : List Tr), σ = [some (.ref b), some (.ref a), some (.ref nd), p3, p4, p5, p6, p7, none] ∧ Stp (TB K) [b] H H' ∧ Bg H' b l ∧ H' nd = some (.lst vs) ∧ RTs H' vs ss ∧ goodL ss ∧ normL ss ∧ (underL ss).Perm (underL ts) ∧ 1 ≤ ss.length ∧ (ss.length = 1 ∨ ss.length + i ≤ ts.length))
      ⟨none, none, none, none, none, us, ts, rfl, e0.wide, hB.step e0, upd_same, hR.tup (e0.tup lsts_nil), hg, hn, .refl _, h1, .inr (Nat.le_refl _)⟩ ?_ ?_
    · rintro i σ H1 hi ⟨p3, p4, p5, p6, p7, vs, ss, rfl, e1, B1, hd1, r1, g1, n1, u1, l1, m1⟩
      have hvs := r1.length
      have hss : lvL ss ≤ 8 := by
        have := u1.length_eq
        rw [underL_len, underL_len] at this
        omega
      have lss := len_lv g1
      refine ⟨_, rfl, nd, vs, rfl, .inl (SqL.of hd1), ?_⟩
      rw [hvs]
      refine ⟨_, _, rfl, rfl, _, rfl, ?_⟩
      by_cases h2 : ss.length < 2
      · rw [decide_eq_true (by omega)]
        refine iteT ?_
        obtain ⟨t, rfl⟩ : ∃ t, ss = [t] := List.length_eq_one_iff.mp (by omega)
        cases r1 with
        | @cons v vs2 t2 ts2 rv rr =>
          refine ⟨_, rfl, nd, _, 0, v, rfl, rfl, SqL.of hd1, atI_nat (j := 0) rfl, k v t H1 e1 B1 rv g1.1 n1.1 ?_⟩
          have : underL [t] = t.under := List.append_nil _
          rw [← this]
          exact u1
      · rw [decide_eq_false (by omega)]
        refine iteF ?_
        refine ⟨_, rfl, (by show 8 ≤ sizeLine; decide), fun l8 hl8 => ?_⟩
        have e18 : Stp (TB K) [] H1 (upd H1 l8 (.lst ([2, 2, 3, 2, 4, 3, 2, 20].map V.int))) := .new hl8
        have nb8 := B1.nb (.of hl8)
        refine ⟨b, l, l8, _, rfl, upd_same, nb8.1.symm, by decide, by decide, B1.step e18, fun i8 x8 H2 hx8 e2 B2 => ?_⟩
        obtain ⟨r, hr2, rfl⟩ : ∃ r : Nat, 2 ≤ r ∧ x8 = .int (r : Int) := by
          have hi6 : i8 < 8 := by
            rcases Nat.lt_or_ge i8 8 with q | q
            · exact q
            · rw [List.getElem?_eq_none (by exact q)] at hx8
              cases hx8
          match i8, hi6 with
          | 0, _ => exact ⟨2, by decide, by injection hx8 with hx8; exact hx8.symm⟩
          | 1, _ => exact ⟨2, by decide, by injection hx8 with hx8; exact hx8.symm⟩
          | 2, _ => exact ⟨3, by decide, by injection hx8 with hx8; exact hx8.symm⟩
          | 3, _ => exact ⟨2, by decide, by injection hx8 with hx8; exact hx8.symm⟩
          | 4, _ => exact ⟨4, by decide, by injection hx8 with hx8; exact hx8.symm⟩
          | 5, _ => exact ⟨3, by decide, by injection hx8 with hx8; exact hx8.symm⟩
          | 6, _ => exact ⟨2, by decide, by injection hx8 with hx8; exact hx8.symm⟩
          | 7, _ => exact ⟨20, by decide, by injection hx8 with hx8; exact hx8.symm⟩
        have e12 : Stp (TB K) [b] H1 H2 := e18.wide.trans e2
        have hd2 := e12.get hd1 trivial (by simpa using nbd.1.symm)
        have r2 := r1.tup (e12.tup B1.lsts)
        have e02 := e1.trans e12
        refine ⟨_, rfl, nd, vs, rfl, .inl (SqL.of hd2), ?_⟩
        rw [hvs]
        refine ⟨_, _, rfl, ?_⟩
        obtain ⟨mn, hmn1, hmn2, emn⟩ : ∃ mn : Nat, 2 ≤ mn ∧ mn ≤ ss.length ∧ (if (ss.length : Int) < (r : Int) then (ss.length : Int) else (r : Int)) = (mn : Int) := by
          by_cases q : (ss.length : Int) < (r : Int)
          · exact ⟨ss.length, by omega, by omega, by rw [if_pos q]⟩
          · exact ⟨r, by omega, by omega, by rw [if_neg q]⟩
        rw [emn]
        refine ⟨_, rfl, a, us, rfl, .inl (SqL.of (e02.get ha trivial (by simpa using hab))), ?_⟩
        rw [hus]
        refine ⟨_, _, rfl, rfl, _, rfl, ?_⟩
        rw [decide_eq_false (by omega)]
        refine iteF ?_
        refine iteF ?_
        refine ⟨(by show 0 ≤ sizeLine; decide), fun hp hhp => ?_⟩
        have e3 : Stp (TB K) [] H2 (upd H2 hp (.lst [])) := .new hhp
        have nhp : Nw H hp := (Nw.of hhp).backB e02 (by simpa using (B2.nb (.of hhp)).1.symm)
        have nbh := B2.nb (.of hhp)
        have hdh : nd ≠ hp := ne_of_none hd2 hhp
        have e03 := e02.trans e3.wide
        refine ⟨_, rfl, _, rfl, by omega, by omega, ?_⟩
        have ej2 : ((mn : Nat) : Int).toNat = mn := rfl
        rw [ej2]
        refine for_range (fun j σ H' => ∃ (q6 q7 : Option V) (v1 v2 : List V) (t1 t2 : List Tr), σ = [some (.ref b), some (.ref a), some (.ref nd), some (.int (0 + (i : Int))), some (.int (mn : Int)), some (.ref hp), q6, q7, none] ∧ Stp (TB K) [b] H H' ∧ Bg H' b l ∧ H' nd = some (.lst v1) ∧ RTs H' v1 t1 ∧ H' hp = some (.lst v2) ∧ RTs H' v2 t2 ∧ (t2 ++ t1).Perm ss ∧ t2.length = j)
          ⟨_, _, vs, [], ss, [], rfl, e03, B2.step e3, e3.get0 hd2 trivial, r2.tup (e3.tup lsts_nil), upd_same, .nil, .refl _, rfl⟩ ?_ ?_
        · rintro j σ H4 hj ⟨q6, q7, v1, v2, t1, t2, rfl, e4, B4, d4, r4, f4, s4, pm, hl2⟩
          have hv1 := r4.length
          have hv2 := s4.length
          have hpl := pm.length_eq
          rw [List.length_append] at hpl
          have gt : goodL t1 := goodL_mem.mpr fun t m => goodL_mem.mp g1 t (pm.mem_iff.mp (List.mem_append_right _ m))
          refine ⟨_, rfl, nd, v1, rfl, .inl (SqL.of d4), ?_⟩
          rw [hv1]
          refine ⟨_, rfl, by omega, by omega, fun D hD => ?_⟩
          have ej3 : ((t1.length : Nat) : Int).toNat = t1.length := rfl
          rw [ej3]
          have nD := B4.nb (.of hD)
          have ha4 := e4.get ha trivial (by simpa using hab)
          refine lc_acc (T := TB K) (B := []) walk_range (fun i x => x = .int (i : Nat)) (fun i H x H' h => ⟨h.1, h.2.trans (congrArg V.int (Int.zero_add _))⟩) (fun _ => True) .refl hD (by simp) (by rw [zL]; omega) (fun j _ acc => acc = (List.range j).map fun m => V.int ((m : Nat) : Int)) (fun _ => rfl) (fun _ _ _ _ _ h => h) trivial (fun _ _ _ => trivial) (fun _ _ _ => trivial) ?_ ?_
          · rintro m y H5 Nx hm rfl e5 _ kk kn
            obtain ⟨u, hu⟩ : ∃ u, t1[m]? = some u := ⟨t1[m], by simp [hm]⟩
            obtain ⟨uv, huv, ru⟩ := r4.getV hu
            have gu := goodL_mem.mp gt u (List.mem_of_getElem? hu)
            have ru5 := ru.tup (e5.tup lsts_nil)
            have yes : ∃ acc, H5 D = some (.lst acc) ∧ acc.length < sizeLine ∧ Nx (upd H5 D (.lst (acc ++ [.int ((m : Nat) : Int)]))) := kk _ _ .refl trivial fun acc _ ha => by
              rw [ha, List.range_succ, List.map_append]
              rfl
            refine ⟨rfl, _, rfl, _, rfl, nd, v1, _, uv, rfl, rfl, SqL.of (e5.get0 d4 trivial), atI_nat huv, ?_⟩
            cases ru5 with
            | @leaf la nm fr hla =>
              have hne : (decide (V.str nm = V.str "")) = false := decide_eq_false (fun e => isNm_ne gu (by injection e))
              refine ⟨la, _, 0, .str nm, rfl, rfl, SqT.of hla, rfl, rfl, _, rfl, ?_⟩
              rw [hne]
              refine iteT ?_
              refine iteT ?_
              exact ⟨_, rfl, yes⟩
            | @grp la q ws ps hla hq hps =>
              refine ⟨la, _, 0, .str "", rfl, rfl, SqT.of hla, rfl, rfl, _, rfl, ?_⟩
              refine iteF ?_
              refine ⟨_, rfl, a, us, rfl, .inl (SqL.of (e5.get0 ha4 trivial)), ?_⟩
              rw [hus]
              refine ⟨_, _, rfl, rfl, _, rfl, ?_⟩
              rw [decide_eq_true (by omega)]
              refine iteT ?_
              refine iteT ?_
              exact ⟨_, rfl, yes⟩
          · intro H5 ys e5 _ hD5 hy
            have d5 := e5.get0 d4 trivial
            have f5 := e5.get0 f4 trivial
            have B5 := B4.step e5
            have hyl : ys.length = t1.length := by rw [hy]; simp
            refine ⟨_, rfl, .inl ⟨rfl, v2, SqL.of f5⟩, _, rfl, .inl ⟨rfl, v1, SqL.of d5⟩, _, rfl, _, rfl, b, l, D, ys, rfl, hD5, nD.1.symm, ?_, by omega, B5, fun i9 x9 H6 hx9 e6 B6 => ?_⟩
            · intro z
              rw [z] at hyl
              simp at hyl
              omega
            rw [hy, List.getElem?_map] at hx9
            obtain ⟨m, hm, rfl⟩ : ∃ m, m < t1.length ∧ x9 = .int ((m : Nat) : Int) := by
              cases ez : (List.range t1.length)[i9]? with
              | none => rw [ez] at hx9; cases hx9
              | some z =>
                rw [ez] at hx9
                exact ⟨z, List.mem_range.mp (List.mem_of_getElem? ez), by injection hx9 with hx9; exact hx9.symm⟩
            obtain ⟨u, hu⟩ : ∃ u, t1[m]? = some u := ⟨t1[m], by simp [hm]⟩
            obtain ⟨uv, huv, ru⟩ := r4.getV hu
            have d6 := e6.get d5 trivial (by simpa using nbd.1.symm)
            have f6 := e6.get f5 trivial (by simpa using nbh.1.symm)
            refine ⟨nd, v1, _, m, uv, rfl, rfl, d6, by omega, by omega, seqIndex_nat (by omega), huv, ?_⟩
            have f7 : (upd H6 nd (.lst (v1.eraseIdx m))) hp = some (.lst v2) := by rw [upd_ne hdh.symm]; exact f6
            refine ⟨hp, v2, _, rfl, rfl, f7, by rw [zL]; omega, ?_⟩
            have e46 : Stp (TB K) [b] H4 H6 := e5.wide.trans e6
            have tt : Tup H4 (upd (upd H6 nd (.lst (v1.eraseIdx m))) hp (.lst (v2 ++ [uv]))) := ((e46.tup B4.lsts).trans (Tup.mutl d6)).trans (Tup.mutl f7)
            refine ⟨_, _, v1.eraseIdx m, v2 ++ [uv], t1.eraseIdx m, t2 ++ [u], rfl, ((e4.trans e46).mut (.inl nnd) d6 trivial).mut (.inl nhp) f7 trivial, (B6.upd nbd.1 nbd.2).upd nbh.1 nbh.2, ?_, (r4.eraseIdx m).tup tt, upd_same, (s4.tup tt).append (.cons (ru.tup tt) .nil), ?_, by rw [List.length_append, hl2]; rfl⟩
            · rw [upd_ne hdh]
              exact upd_same
            · rw [List.append_assoc]
              exact (List.Perm.append_left _ (erase_perm hu).symm).trans pm
        · rintro σ H4 ⟨q6, q7, v1, v2, t1, t2, rfl, e4, B4, d4, r4, f4, s4, pm, hl2⟩
          have hpl := pm.length_eq
          rw [List.length_append] at hpl
          have ga : goodL (t2 ++ t1) := (goodL_perm pm).mpr g1
          have na : normL (t2 ++ t1) := normL_mem.mpr fun t m => normL_mem.mp n1 t (pm.mem_iff.mp m)
          rw [goodL_append] at ga
          rw [normL_append] at na
          have hva := lvL_perm pm
          rw [lvL_append] at hva
          have hgl := hgtL_lv ga.1
          refine ⟨_, rfl, .inl ⟨rfl, v1, SqL.of d4⟩, _, rfl, _, t2, rfl, ⟨hp, v2, rfl, f4, s4⟩, by omega, ga.1, by omega, e4.tabs hT, fun v' H5 r5 e5 => ?_⟩
          have d5 := e5.get0 d4 trivial
          have hv1 := r4.length
          refine ⟨nd, v1, _, rfl, rfl, d5, by rw [zL]; omega, ?_⟩
          have tt : Tup H4 (upd H5 nd (.lst (v1 ++ [v']))) := (e5.tup lsts_nil).trans (Tup.mutl d5)
          refine ⟨_, _, _, _, _, v1 ++ [v'], t1 ++ [group t2], rfl, (e4.trans e5.wide).mut (.inl nnd) d5 trivial, (B4.step e5).upd nbd.1 nbd.2, upd_same, (r4.tup tt).append (.cons (r5.tup (Tup.mutl d5)) .nil), goodL_append.mpr ⟨ga.2, group_good ga.1 (by omega), trivial⟩, normL_append.mpr ⟨na.2, group_norm na.1, trivial⟩, ?_, ?_, ?_⟩
          · refine List.Perm.trans ?_ u1
            rw [underL_append]
            have e6 : underL [group t2] = sortS (underL t2) := by
              show (group t2).under ++ [] = _
              rw [List.append_nil, group_under]
            rw [e6]
            refine (List.Perm.append_left _ (sortS_perm _)).trans (List.perm_append_comm.trans ?_)
            rw [← underL_append]
            exact underL_perm pm
          · rw [List.length_append]
            simp
          · rw [List.length_append]
            simp only [List.length_cons, List.length_nil]
            right
            rcases m1 with m1 | m1 <;> omega
    · rintro σ H1 ⟨p3, p4, p5, p6, p7, vs, ss, rfl, e1, B1, hd1, r1, g1, n1, u1, l1, m1⟩
      obtain ⟨t, rfl⟩ : ∃ t, ss = [t] := List.length_eq_one_iff.mp (by omega)
      cases r1 with
      | @cons v vs2 t2 ts2 rv rr =>
        refine ⟨_, rfl, nd, _, 0, v, rfl, rfl, SqL.of hd1, atI_nat (j := 0) rfl, k v t H1 e1 B1 rv g1.1 n1.1 ?_⟩
        have : underL [t] = t.under := List.append_nil _
        rw [← this]
        exact u1) (g_law_tree T)
def spShape (Tb : TBs) : Sp := fun vs H Q _ => ∃ (b l : Addr), vs = [.ref b] ∧ Tabs Tb H ∧ Bg H b l ∧ ∀ (v : V) (t : Tr) H', Stp Tb [b] H H' → Bg H' b l → RT H' v t → TOk t → Q v H'
theorem cal_shape (T : Tx K mg base) : Cal P w K mg base 71 "_law_shape" (spShape (TB K)) :=
  cal_mk (fn_law_shape T (k := 70) (fun vs H Q E ⟨b, l, e, _⟩ => by rw [e]; rfl) fun A outer s H vs Q E hr h => by
    obtain ⟨b, l, rfl, hT, hB, k⟩ := h
    have c_law_many : Cal P w K mg base 3 "_law_many" (spMany (TB K)) := cal_many T
    have c_law_names : Cal P w K mg base 4 "_law_names" (spNames (TB K)) := cal_names T
    have c_law_leaves : Cal P w K mg base 3 "_law_leaves" (spLeaves (TB K)) := cal_leaves T
    have c_law_tree : Cal P w K mg base 70 "_law_tree" (spTree (TB K)) := cal_tree T
    refine ⟨_, (pss_one (ps_ret (pe_c c_law_tree hr (by omega) rfl (pa_cons (pv 0) (pa_cons (pe_c c_law_leaves hr (by omega) rfl (pa_cons (pv 0) (pa_cons (pe_c c_law_names hr (by omega) rfl (pa_cons (pv 0) (pa_cons (pe_c c_law_many hr (by omega) rfl (pa_cons (pv 0) pa_nil)) pa_nil))) pa_nil))) pa_nil))))), ?_⟩
    refine ⟨_, rfl, _, rfl, _, rfl, _, rfl, b, l, rfl, hB, fun n H1 hn1 hn8 e1 B1 => ?_⟩
    refine ⟨b, l, n, rfl, hn8, B1, fun p ws H2 hwl hnd hnm e2 B2 np hp => ?_⟩
    have nbp := B1.nb np
    refine ⟨b, l, p, ws, rfl, hp, nbp.1.symm, by omega, hnm, B2, fun p2 us ts H3 e3 B3 np2 hp2 r3 u3 g3 n3 => ?_⟩
    have nbp2 := B2.nb np2
    have e03 := (e1.trans e2).trans e3
    have lv3 : lvL ts = n := by rw [← underL_len, u3, hwl]
    have h1 : 1 ≤ ts.length := by
      cases ts with
      | nil => rw [← lv3] at hn1; exact absurd hn1 (by decide)
      | cons t ts => simp
    refine ⟨b, l, p2, us, ts, rfl, hp2, r3, nbp2.1.symm, g3, n3, h1, by omega, e03.tabs hT, B3, fun v t H4 e4 B4 r4 g4 n4 p4 => k v t H4 (e03.trans e4) B4 r4 ⟨g4, n4, ?_, ?_⟩⟩
    · rw [u3] at p4
      exact p4.nodup_iff.mpr hnd
    · have := p4.length_eq
      rw [under_len, underL_len, lv3] at this
      omega) (g_law_shape T)
end
end K3

namespace K3
open PySem PySem.Spec PyProof.Rows L2 LamX LK LB
section
variable {P : Program} {w : World} {K : PySem.W.Frag} {mg : Str → Option Value} {base : Heap}
/-- what a dict of names tells of a name -/
def bookF (kvs : List (Key × V)) (x : Str) : Str := match valV kvs (.inr x) with
  | some (.str z) => z
  | _ => ""
theorem bookF_of {kvs : List (Key × V)} {x z : Str} (h : valV kvs (.inr x) = some (.str z)) : bookF kvs x = z := by
  unfold bookF
  rw [h]
def spBook (Tb : TBs) : Sp := fun vs H Q _ => ∃ (b l wl : Addr) (ws : List Str), vs = [.ref b, .ref wl] ∧ H wl = some (.lst (ws.map V.str)) ∧ wl ≠ b ∧ ws.length ≤ 8 ∧ ws.Nodup ∧ (∀ x ∈ ws, isNm x = true) ∧ Bg H b l ∧
  ∀ (d : Addr) (kvs : List (Key × V)) H', Stp Tb [b] H H' → Bg H' b l → Nw H d → H' d = some (.dK kvs) → (∀ x ∈ ws, valV kvs (.inr x) = some (.str (bookF kvs x)) ∧ isNm (bookF kvs x) = true) → (ws.map (bookF kvs)).Nodup → Q (.ref d) H'
theorem cal_book (T : Tx K mg base) : Cal P w K mg base 5 "_law_book" (spBook (TB K)) :=
  cal_mk (fn_law_book T (k := 4) (fun vs H Q E ⟨b, l, wl, ws, e, _⟩ => by rw [e]; rfl) fun A outer s H vs Q E hr h => by
    obtain ⟨b, l, wl, ws, rfl, hw, hwb, hwl, hnd, hnm, hB, k⟩ := h
    have hu := hu1 hr
    have c_law_draw : Cal P w K mg base 2 "_law_draw" (spDraw (TB K)) := cal_draw T
    have c_law_names : Cal P w K mg base 4 "_law_names" (spNames (TB K)) := cal_names T
    have c_law_mixed : Cal P w K mg base 3 "_law_mixed" (spMixed (TB K)) := cal_mixed T
    refine ⟨_, (pss_cons (ps_set (i := 2) sc_law_book.nd rfl (Or.inl rfl) (pe_c c_law_names hr (by omega) rfl (pa_cons (pv 0) (pa_cons (pe_callB call_len_seq (by rfl) (n_len T) (by decide +kernel) (pa_cons (pv 1) pa_nil)) pa_nil))))
  (pss_cons (ps_if (pt_cmpR op_eq (pe_c c_law_draw hr (by omega) rfl (pa_cons (pv 0) (pa_cons pe_int pa_nil))) pe_int (nomark _)) (pss_one (ps_set (i := 2) sc_law_book.nd rfl (Or.inl rfl) (pe_c c_law_mixed hr (by omega) rfl (pa_cons (pv 0) (pa_cons (pv 1) pa_nil))))) pss_nil)
  (pss_cons (ps_set (i := 3) sc_law_book.nd rfl (Or.inl rfl) pe_dnewK)
  (pss_cons (ps_for PassesOwn.never rfl (pi_range1 (by rfl) (n_range T) (pa_cons (pe_callB call_len_seq (by rfl) (n_len T) (by decide +kernel) (pa_cons (pv 1) pa_nil)) pa_nil)) (pg_name (i := 4) sc_law_book.nd rfl (Or.inl rfl)) (pss_one (ps_dput hu (pv 3) (pe_ix ix_list (pv 1) (pv 4) (fun _ _ => rfl)) (pe_ix ix_list (pv 2) (pv 4) (fun _ _ => rfl)) rfl)))
  (pss_one (ps_ret (pv 3))))))), ?_⟩
    refine ⟨_, rfl, _, rfl, wl, _, rfl, .inl (SqL.of hw), ?_⟩
    rw [List.length_map]
    refine ⟨b, l, ws.length, rfl, hwl, hB, fun p fs H1 hfl hfd hfn e1 B1 np hp => ?_⟩
    have nbp := hB.nb np
    have hw1 := e1.get hw trivial (by simpa using hwb)
    refine ⟨_, rfl, b, l, 3, rfl, by decide, by decide, B1, fun dd H2 hd0 hd1 e2 B2 => ?_⟩
    refine ⟨rfl, _, rfl, ?_⟩
    have hw2 := e2.get hw1 trivial (by simpa using hwb)
    have hp2 := e2.get hp trivial (by simpa using nbp.1.symm)
    have e12 := e1.trans e2
    by_cases hd : dd = 1
    · rw [decide_eq_true (by rw [hd])]
      refine iteT ?_
      refine ⟨_, rfl, _, rfl, b, l, wl, _, rfl, .inl ⟨hw2, hwb⟩, by rw [List.length_map]; omega, B2, fun p' ys H3 pm e3 B3 np' hp' => ?_⟩
      obtain ⟨fs', rfl, pf⟩ := perm_map pm rfl
      clear hfl hfd hfn
      have hfl : fs'.length = ws.length := pf.length_eq
      have hfd : fs'.Nodup := pf.nodup_iff.mpr hnd
      have hfn : ∀ x ∈ fs', isNm x = true := fun x m => hnm x (pf.mem_iff.mp m)
      have hw3 := e3.get hw2 trivial (by simpa using hwb)
      have e13 := e12.trans e3
      have hp3 := hp'
      clear hp hp2 np pm pf nbp np' hp'
      generalize p' = p at *
      generalize fs' = fz at *
      intro d hd0
      have ed : Stp (TB K) [] H3 (upd H3 d (.dK [])) := .new hd0
      have nbd := B3.nb (.of hd0)
      have nd0 : Nw H d := (Nw.of hd0).backB e13 (by simpa using nbd.1.symm)
      refine ⟨_, rfl, wl, _, rfl, .inl (SqL.of (ed.get0 hw3 trivial)), ?_⟩
      rw [List.length_map]
      refine ⟨_, rfl, by omega, by omega, ?_⟩
      have ej : ((ws.length : Nat) : Int).toNat = ws.length := rfl
      rw [ej]
      refine for_range (fun i σ H' => ∃ (p4 : Option V) (kvs : List (Key × V)), σ = [some (.ref b), some (.ref wl), some (.ref p), some (.ref d), p4] ∧ Stp (TB K) [b] H H' ∧ Bg H' b l ∧ H' wl = some (.lst (ws.map V.str)) ∧ H' p = some (.lst (fz.map V.str)) ∧ H' d = some (.dK kvs) ∧ kvs.length ≤ i ∧ ∀ (j : Nat) (x z : Str), j < i → ws[j]? = some x → fz[j]? = some z → valV kvs (.inr x) = some (.str z))
        ⟨none, [], rfl, e13.trans ed.wide, B3.step ed, ed.get0 hw3 trivial, ed.get0 hp3 trivial, upd_same, Nat.le_refl _, fun j x z h => absurd h (Nat.not_lt_zero _)⟩ ?_ ?_
      · rintro i σ H4 hi ⟨p4, kvs, rfl, e4, B4, w4, f4, d4, hkl, hv⟩
        rw [Int.zero_add]
        obtain ⟨x, hx⟩ : ∃ x, ws[i]? = some x := ⟨_, List.getElem?_eq_getElem hi⟩
        obtain ⟨z, hz⟩ : ∃ z, fz[i]? = some z := ⟨_, List.getElem?_eq_getElem (by omega : i < fz.length)⟩
        have hx2 : (ws.map V.str)[i]? = some (.str x) := by rw [List.getElem?_map, hx]; rfl
        have hz2 : (fz.map V.str)[i]? = some (.str z) := by rw [List.getElem?_map, hz]; rfl
        refine ⟨_, rfl, _, rfl, p, _, _, _, rfl, rfl, SqL.of f4, atI_nat hz2, _, rfl, _, rfl, _, rfl, wl, _, _, _, rfl, rfl, SqL.of w4, atI_nat hx2, d, _, rfl, DPut.k (k := .inr x) d4 (by rw [zL]; omega), ?_⟩
        have hpd : p ≠ d := ne_of f4 d4 (by intro q; cases q)
        have hwd : wl ≠ d := ne_of w4 d4 (by intro q; cases q)
        refine ⟨_, _, rfl, e4.mut (.inl nd0) d4 trivial, B4.upd nbd.1 nbd.2, by rw [upd_ne hwd]; exact w4, by rw [upd_ne hpd]; exact f4, upd_same, ?_, ?_⟩
        · have := length_putK kvs (.inr x) (V.str z)
          omega
        · intro j x' z' hj hx' hz'
          rw [valV_put]
          by_cases q : x' = x
          · subst q
            rw [if_pos rfl]
            have hji : j = i := by
              have h1 : j < ws.length := by omega
              have := (List.getElem?_inj h1 hnd).mp (hx'.trans hx.symm)
              exact this
            subst hji
            rw [hz] at hz'
            injection hz' with hz'
            rw [hz']
          · rw [if_neg (fun e => q (by injection e))]
            have hne : j ≠ i := by
              rintro rfl
              rw [hx] at hx'
              injection hx' with hx'
              exact q hx'.symm
            exact hv j x' z' (by omega) hx' hz'
      · rintro σ H4 ⟨p4, kvs, rfl, e4, B4, w4, f4, d4, hkl, hv⟩
        have hb : ∀ (j : Nat) (x z : Str), ws[j]? = some x → fz[j]? = some z → valV kvs (.inr x) = some (.str z) ∧ bookF kvs x = z := fun j x z hx hz => by
          have hj : j < ws.length := by
            rcases Nat.lt_or_ge j ws.length with q | q
            · exact q
            · rw [List.getElem?_eq_none q] at hx
              cases hx
          have := hv j x z hj hx hz
          exact ⟨this, bookF_of this⟩
        refine ⟨_, rfl, k d kvs H4 e4 B4 nd0 d4 (fun x m => ?_) ?_⟩
        · obtain ⟨j, hj⟩ := List.mem_iff_getElem?.mp m
          have hjl : j < ws.length := by
            rcases Nat.lt_or_ge j ws.length with q | q
            · exact q
            · rw [List.getElem?_eq_none q] at hj
              cases hj
          obtain ⟨z, hz⟩ : ∃ z, fz[j]? = some z := ⟨_, List.getElem?_eq_getElem (by omega : j < fz.length)⟩
          obtain ⟨h1, h2⟩ := hb j x z hj hz
          rw [h2]
          exact ⟨h1, hfn z (List.mem_of_getElem? hz)⟩
        · have : ws.map (bookF kvs) = fz := by
            refine List.ext_getElem? fun j => ?_
            rw [List.getElem?_map]
            rcases Nat.lt_or_ge j ws.length with q | q
            · obtain ⟨x, hx⟩ : ∃ x, ws[j]? = some x := ⟨_, List.getElem?_eq_getElem q⟩
              obtain ⟨z, hz⟩ : ∃ z, fz[j]? = some z := ⟨_, List.getElem?_eq_getElem (by omega : j < fz.length)⟩
              rw [hx, hz]
              exact congrArg some (hb j x z hx hz).2
            · rw [List.getElem?_eq_none q, List.getElem?_eq_none (by omega)]
              rfl
          rw [this]
          exact hfd
    · rw [decide_eq_false (fun e => hd (by injection e))]
      refine iteF ?_
      have hw3 := hw2
      have e13 := e12
      have hp3 := hp2
      have B3 := B2
      clear hp hp2
      generalize H2 = H3 at *
      generalize fs = fz at *
      intro d hd0
      have ed : Stp (TB K) [] H3 (upd H3 d (.dK [])) := .new hd0
      have nbd := B3.nb (.of hd0)
      have nd0 : Nw H d := (Nw.of hd0).backB e13 (by simpa using nbd.1.symm)
      refine ⟨_, rfl, wl, _, rfl, .inl (SqL.of (ed.get0 hw3 trivial)), ?_⟩
      rw [List.length_map]
      refine ⟨_, rfl, by omega, by omega, ?_⟩
      have ej : ((ws.length : Nat) : Int).toNat = ws.length := rfl
      rw [ej]
      refine for_range (fun i σ H' => ∃ (p4 : Option V) (kvs : List (Key × V)), σ = [some (.ref b), some (.ref wl), some (.ref p), some (.ref d), p4] ∧ Stp (TB K) [b] H H' ∧ Bg H' b l ∧ H' wl = some (.lst (ws.map V.str)) ∧ H' p = some (.lst (fz.map V.str)) ∧ H' d = some (.dK kvs) ∧ kvs.length ≤ i ∧ ∀ (j : Nat) (x z : Str), j < i → ws[j]? = some x → fz[j]? = some z → valV kvs (.inr x) = some (.str z))
        ⟨none, [], rfl, e13.trans ed.wide, B3.step ed, ed.get0 hw3 trivial, ed.get0 hp3 trivial, upd_same, Nat.le_refl _, fun j x z h => absurd h (Nat.not_lt_zero _)⟩ ?_ ?_
      · rintro i σ H4 hi ⟨p4, kvs, rfl, e4, B4, w4, f4, d4, hkl, hv⟩
        rw [Int.zero_add]
        obtain ⟨x, hx⟩ : ∃ x, ws[i]? = some x := ⟨_, List.getElem?_eq_getElem hi⟩
        obtain ⟨z, hz⟩ : ∃ z, fz[i]? = some z := ⟨_, List.getElem?_eq_getElem (by omega : i < fz.length)⟩
        have hx2 : (ws.map V.str)[i]? = some (.str x) := by rw [List.getElem?_map, hx]; rfl
        have hz2 : (fz.map V.str)[i]? = some (.str z) := by rw [List.getElem?_map, hz]; rfl
        refine ⟨_, rfl, _, rfl, p, _, _, _, rfl, rfl, SqL.of f4, atI_nat hz2, _, rfl, _, rfl, _, rfl, wl, _, _, _, rfl, rfl, SqL.of w4, atI_nat hx2, d, _, rfl, DPut.k (k := .inr x) d4 (by rw [zL]; omega), ?_⟩
        have hpd : p ≠ d := ne_of f4 d4 (by intro q; cases q)
        have hwd : wl ≠ d := ne_of w4 d4 (by intro q; cases q)
        refine ⟨_, _, rfl, e4.mut (.inl nd0) d4 trivial, B4.upd nbd.1 nbd.2, by rw [upd_ne hwd]; exact w4, by rw [upd_ne hpd]; exact f4, upd_same, ?_, ?_⟩
        · have := length_putK kvs (.inr x) (V.str z)
          omega
        · intro j x' z' hj hx' hz'
          rw [valV_put]
          by_cases q : x' = x
          · subst q
            rw [if_pos rfl]
            have hji : j = i := by
              have h1 : j < ws.length := by omega
              have := (List.getElem?_inj h1 hnd).mp (hx'.trans hx.symm)
              exact this
            subst hji
            rw [hz] at hz'
            injection hz' with hz'
            rw [hz']
          · rw [if_neg (fun e => q (by injection e))]
            have hne : j ≠ i := by
              rintro rfl
              rw [hx] at hx'
              injection hx' with hx'
              exact q hx'.symm
            exact hv j x' z' (by omega) hx' hz'
      · rintro σ H4 ⟨p4, kvs, rfl, e4, B4, w4, f4, d4, hkl, hv⟩
        have hb : ∀ (j : Nat) (x z : Str), ws[j]? = some x → fz[j]? = some z → valV kvs (.inr x) = some (.str z) ∧ bookF kvs x = z := fun j x z hx hz => by
          have hj : j < ws.length := by
            rcases Nat.lt_or_ge j ws.length with q | q
            · exact q
            · rw [List.getElem?_eq_none q] at hx
              cases hx
          have := hv j x z hj hx hz
          exact ⟨this, bookF_of this⟩
        refine ⟨_, rfl, k d kvs H4 e4 B4 nd0 d4 (fun x m => ?_) ?_⟩
        · obtain ⟨j, hj⟩ := List.mem_iff_getElem?.mp m
          have hjl : j < ws.length := by
            rcases Nat.lt_or_ge j ws.length with q | q
            · exact q
            · rw [List.getElem?_eq_none q] at hj
              cases hj
          obtain ⟨z, hz⟩ : ∃ z, fz[j]? = some z := ⟨_, List.getElem?_eq_getElem (by omega : j < fz.length)⟩
          obtain ⟨h1, h2⟩ := hb j x z hj hz
          rw [h2]
          exact ⟨h1, hfn z (List.mem_of_getElem? hz)⟩
        · have : ws.map (bookF kvs) = fz := by
            refine List.ext_getElem? fun j => ?_
            rw [List.getElem?_map]
            rcases Nat.lt_or_ge j ws.length with q | q
            · obtain ⟨x, hx⟩ : ∃ x, ws[j]? = some x := ⟨_, List.getElem?_eq_getElem q⟩
              obtain ⟨z, hz⟩ : ∃ z, fz[j]? = some z := ⟨_, List.getElem?_eq_getElem (by omega : j < fz.length)⟩
              rw [hx, hz]
              exact congrArg some (hb j x z hx hz).2
            · rw [List.getElem?_eq_none q, List.getElem?_eq_none (by omega)]
              rfl
          rw [this]
          exact hfd) (g_law_book T)
end
end K3

namespace K3
open PySem PySem.Spec PyProof.Rows L2 LamX LK LB
section
variable {P : Program} {w : World} {K : PySem.W.Frag} {mg : Str → Option Value} {base : Heap}
def spMoved (Tb : TBs) : Sp := fun vs H Q _ => ∃ (b l : Addr) (v : V) (t : Tr), vs = [.ref b, v] ∧ RT H v t ∧ TOk t ∧ Tabs Tb H ∧ Bg H b l ∧
  ∀ (v' : V) (t' : Tr) H', Stp Tb [b] H H' → Bg H' b l → RT H' v' t' → TOk t' → t'.under.Perm t.under → Q v' H'
theorem ne_strs {ws : List Str} {l : Nat} (h : ws.length = l) (h1 : 1 ≤ l) : ws.map V.str ≠ [] := fun z => by
  have := congrArg List.length z
  rw [List.length_map, List.length_nil] at this
  omega
theorem cal_moved (T : Tx K mg base) : Cal P w K mg base 134 "_law_moved" (spMoved (TB K)) :=
  cal_mk (fn_law_moved T (k := 133) (fun vs H Q E ⟨b, l, v, t, e, _⟩ => by rw [e]; rfl) fun A outer s H vs Q E hr h => by
    obtain ⟨b, l, v, t, rfl, hR, O, hT, hB, k⟩ := h
    have c_law_of : Cal P w K mg base 3 "_law_of" (spOf (TB K)) := cal_of T
    have c_law_under : Cal P w K mg base 64 "_law_under" (spUnder (TB K) 63) := cal_under T 63
    have c_law_nodes : Cal P w K mg base 64 "_law_nodes" (spOne (TB K) 63 gNodes) := cal_nodes T 63
    have c_law_way : Cal P w K mg base 66 "_law_way" (spWay (TB K)) := cal_way T
    have c_law_left : Cal P w K mg base 133 "_law_left" (spLeft (TB K) 63) := cal_left T 63
    have c_law_added : Cal P w K mg base 133 "_law_added" (spA (TB K) 30) := cal_added T
    refine ⟨_, (pss_cons (ps_set (i := 2) sc_law_moved.nd rfl (Or.inr rfl) (pe_c c_law_of hr (by omega) rfl (pa_cons (pv 0) (pa_cons (pe_c c_law_under hr (by omega) rfl (pa_cons (pv 1) pa_nil)) pa_nil))))
  (pss_cons (ps_set (i := 3) sc_law_moved.nd rfl (Or.inl rfl) (pe_ix ix_list (pe_c c_law_way hr (by omega) rfl (pa_cons (pv 1) (pa_cons (pv 2) pa_nil))) (pe_un un_neg pe_int) (fun _ _ => rfl)))
  (pss_cons (ps_set (i := 4) sc_law_moved.nd rfl (Or.inl rfl) (pe_c c_law_left hr (by omega) rfl (pa_cons (pv 1) (pa_cons (pe_lc (own := [("name", 5)]) (g := gName 5) rfl sc_law_moved.nd (pi_list (pe_c c_law_under hr (by omega) rfl (pa_cons (pv 1) pa_nil))) (blkOk_by (own := [("name", 5)]) (N := N_law_moved) (sc := defScope s_law_moved) (by decide +kernel)) (fun _ _ _ _ _ => (pg_name (i := 5) sc_law_moved.nd rfl (Or.inl rfl))) (fun _ _ _ _ _ => pts_one (pt_cmpR op_ne (pv 5) (pv 2) (nomark _))) (fun _ _ _ _ _ => (pv 5))) pa_nil))))
  (pss_cons (ps_if (pt_cmpR (op_eqD hr.units) (pv 4) (pe_lst pa_nil) (nomark _)) (pss_one (ps_ret (pv 1))) pss_nil)
  (pss_one (ps_ret (pe_ix ix_list (pe_c c_law_added hr (by omega) rfl (pa_cons (pe_ix ix_list (pv 4) pe_int (fun _ _ => rfl)) (pa_cons (pe_c c_law_under hr (by omega) rfl (pa_cons (pe_c c_law_of hr (by omega) rfl (pa_cons (pv 0) (pa_cons (pe_c c_law_nodes hr (by omega) rfl (pa_cons (pe_ix ix_list (pv 4) pe_int (fun _ _ => rfl)) pa_nil)) pa_nil))) pa_nil)) (pa_cons (pv 3) pa_nil)))) pe_int (fun _ _ => rfl)))))))), ?_⟩
    have hh := O.hgt
    have hl := O.lv
    have hp := lv_pos O.good
    refine ⟨_, rfl, _, rfl, v, t, rfl, hR, by omega, O.good, by omega, fun p1 H1 np1 e1 h1 => ?_⟩
    have nb1 := hB.nb np1
    have B1 := hB.step e1
    refine ⟨b, l, p1, _, rfl, h1, nb1.1.symm, ne_strs (under_len t) hp, by rw [List.length_map, under_len]; omega, B1, fun i x H2 hx e2 B2 => ?_⟩
    obtain ⟨z, hz, rfl⟩ := str_of_map hx
    have hzm := List.mem_of_getElem? hz
    have e02 : Stp (TB K) [b] H H2 := e1.wide.trans e2
    have R2 := hR.tup (e02.tup hB.lsts)
    refine ⟨_, rfl, _, rfl, v, t, z, rfl, R2, by omega, O.good, by omega, fun p3 us3 H3 e3 np3 h3 r3 => ?_⟩
    obtain ⟨pre, fr, ew⟩ := way_last hzm
    have ew2 : wayT t z = pre ++ [Tr.leaf z fr] := ew
    rw [ew2] at r3
    obtain ⟨vs3, lf, rfl, rl⟩ := rts_last r3
    refine ⟨_, rfl, p3, _, _, lf, rfl, rfl, SqL.of h3, atI_last vs3 lf, ?_⟩
    have R3 := R2.tup (e3.tup lsts_nil)
    refine ⟨_, rfl, _, rfl, v, t, rfl, R3, by omega, O.good, by omega, fun p4 H4 np4 e4 h4 => ?_⟩
    have z4 : (t.under.map V.str).length ≤ sizeLine := by rw [List.length_map, under_len, zL]; omega
    refine ⟨p4, rfl, ⟨_, SqL.of h4⟩, fun D hD => lc_list0 (T := TB K) .refl hD h4 z4 (fun j _ acc => acc = ((t.under.take j).filter fun w => !decide (w = z)).map V.str) (fun _ => rfl) (fun _ _ _ _ _ h => h) ?_ ?_⟩
    · intro j y H5 Nx hy e5 kk kn
      obtain ⟨y, hy2, rfl⟩ := str_of_map hy
      refine ⟨rfl, _, rfl, _, rfl, rfl, _, rfl, ?_⟩
      have dz : decide (V.str y = V.str z) = decide (y = z) := decide_eq_decide.mpr ⟨fun e => by injection e, fun e => by rw [e]⟩
      rw [dz]
      by_cases q : y = z
      · rw [decide_eq_true q]
        refine iteF ?_
        refine kn _ .refl fun acc ha => ?_
        rw [ha, take_snoc hy2, List.filter_append]
        simp [q]
      · rw [decide_eq_false q]
        refine iteT ?_
        refine ⟨_, rfl, kk _ _ .refl fun acc _ ha => ?_⟩
        rw [ha, take_snoc hy2, List.filter_append]
        simp [q]
    · intro H5 ys e5 hD5 hy
      rw [List.length_map, List.take_length] at hy
      subst hy
      have e35 := e3.trans (e4.trans e5)
      have e05 : Stp (TB K) [b] H H5 := e02.trans e35.wide
      have R5 := R3.tup ((e4.trans e5).tup lsts_nil)
      refine ⟨v, t, D, _, rfl, R5, by omega, O.good, by omega, e05.tabs hT, hD5, fun p6 us6 H6 e6 np6 h6 r6 => ?_⟩
      have B6 := B2.step (e35.trans e6)
      have e06 : Stp (TB K) [b] H H6 := e05.trans e6.wide
      refine ⟨_, rfl, (by show 0 ≤ sizeLine; decide), fun pn hpn => ?_⟩
      have e7 : Stp (TB K) [] H6 (upd H6 pn (.lst [])) := .new hpn
      have h67 := e7.get0 h6 trivial
      have r67 := r6.tup (e7.tup lsts_nil)
      have gL := left_good (ws := t.under.filter fun w => !decide (w = z)) O.good
      have nL := left_norm (ws := t.under.filter fun w => !decide (w = z)) (t := t)
      have vL := left_lv (t.under.filter fun w => !decide (w = z)) t
      have lL := left_len (t.under.filter fun w => !decide (w = z)) t
      have hL := hgtL_lv gL
      refine ⟨.list (dataL (t.left _)), .list [], rts_ne h67 r67, .lst (SqL.of upd_same) .nil, shaped_trs gL (by omega), by decide +kernel, ?_⟩
      refine ⟨_, rfl, ?_⟩
      rw [eqv_nil]
      have e07 : Stp (TB K) [b] H (upd H6 pn (.lst [])) := e06.trans e7.wide
      by_cases hne : t.left (t.under.filter fun w => !decide (w = z)) = []
      · rw [decide_eq_true hne]
        refine iteT ?_
        exact ⟨_, rfl, k v t _ e07 (B6.step e7) (hR.tup (e07.tup hB.lsts)) O (.refl _)⟩
      · rw [decide_eq_false hne]
        refine iteF ?_
        obtain ⟨r, er⟩ : ∃ r, t.left (t.under.filter fun w => !decide (w = z)) = [r] := List.length_eq_one_iff.mp (by
          have := List.length_pos_iff.mpr hne
          omega)
        have pr := left_rest er
        rw [er] at r67 gL nL vL
        have gr := gL.1
        have nr := nL.1
        have vr : r.lv ≤ t.lv := by simpa [lvL] using vL
        have tr := hgt_lv gr
        cases r67 with
        | @cons rv rvs rt rts hrv hrr =>
        cases hrr with
        | nil =>
        have B7 := B6.step e7
        refine ⟨_, rfl, p6, _, 0, rv, rfl, rfl, SqL.of h67, atI_nat (j := 0) rfl, ?_⟩
        refine ⟨_, rfl, _, rfl, p6, _, 0, rv, rfl, rfl, SqL.of h67, atI_nat (j := 0) rfl, rv, r, rfl, hrv, by omega, gr, by omega, ?_⟩
        rintro _ H8 e8 ⟨p8, us8, rfl, np8, h8, r8⟩
        have nb8 := B7.nb np8
        have B8 := B7.step e8
        have l8 := nodes_len gr
        have hus8 := r8.length
        have hrp := lv_pos gr
        refine ⟨b, l, p8, us8, rfl, h8, nb8.1.symm, ?_, by omega, B8, fun i9 uv H9 hx9 e9 B9 => ?_⟩
        · intro q
          rw [q] at hus8
          cases r with
          | leaf _ _ => simp [Tr.nodes] at hus8
          | grp _ => simp [Tr.nodes] at hus8
        obtain ⟨u, hu, ru⟩ := r8.get hx9
        have hum := List.mem_of_getElem? hu
        obtain ⟨gu, thu, lu⟩ := nodes_good gr u hum
        have e89 : Stp (TB K) [b] (upd H6 pn (.lst [])) H9 := e8.wide.trans e9
        have ru9 := ru.tup (e9.tup B8.lsts)
        refine ⟨uv, u, rfl, ru9, by omega, gu, by omega, fun p10 H10 np10 e10 h10 => ?_⟩
        have e710 : Stp (TB K) [b] (upd H6 pn (.lst [])) H10 := e89.trans e10.wide
        have rv10 := hrv.tup (e710.tup B7.lsts)
        have e610 : Stp (TB K) [b] H3 H10 := (((e4.trans e5).trans (e6.trans e7)).wide).trans e710
        have rl10 := rl.tup (e610.tup (B2.step e3).lsts)
        have hzn := under_nm O.good z hzm
        refine ⟨_, rfl, rv, r, p10, u.under, lf, z, fr, rfl, ⟨rv10, by omega, gr, nr, by omega, (e07.trans e710).tabs hT, h10, under_ok gu⟩, rl10, hzn, ?_⟩
        intro p11 us11 ts11 H11 e11 np11 h11 r11 g11
        have hne11 := g11.2 ⟨u, hum, rfl⟩
        rcases g11.1 with q | ⟨t', rfl, g', n', p'⟩
        · exact absurd q hne11
        cases r11 with
        | @cons tv tvs tt tts htv htr =>
        refine ⟨p11, _, 0, tv, rfl, rfl, SqL.of h11, atI_nat (j := 0) rfl, ?_⟩
        have pp : t'.under.Perm t.under := p'.trans ((pr.cons z).trans (back_perm O.nd hzm))
        exact k tv t' H11 ((e07.trans e710).trans e11.wide) (((B9.step e10)).step e11) htv (O.of g' n' pp) pp) (g_law_moved T)
end
end K3

namespace K3
open PySem PySem.Spec PyProof.Rows L2 LamX LK LB
section
variable {P : Program} {w : World} {K : PySem.W.Frag} {mg : Str → Option Value} {base : Heap}
theorem cut2 (xs : List V) : cutV xs none (some ((2 : Nat) : Int)) = xs.take 2 := by
  unfold cutV
  rw [HT.sIx_none, List.drop_zero, Nat.sub_zero]
  have h : HT.sIx xs.length xs.length (some ((2 : Nat) : Int)) = min 2 xs.length := HT.sIx_nat _ _ _
  rw [h]
  rcases Nat.le_total 2 xs.length with q | q
  · rw [Nat.min_eq_left q]
  · rw [Nat.min_eq_right q, List.take_of_length_le q, List.take_of_length_le (Nat.le_refl _)]
theorem cal_change (T : Tx K mg base) : Cal P w K mg base 135 "_law_change" (spMoved (TB K)) :=
  cal_mk (fn_law_change T (k := 134) (fun vs H Q E ⟨b, l, v, t, e, _⟩ => by rw [e]; rfl) fun A outer s H vs Q E hr h => by
    obtain ⟨b, l, v, t, rfl, hR, O, hT, hB, k⟩ := h
    have hu := hu1 hr
    have c_law_draw : Cal P w K mg base 2 "_law_draw" (spDraw (TB K)) := cal_draw T
    have c_law_of : Cal P w K mg base 3 "_law_of" (spOf (TB K)) := cal_of T
    have c_law_mixed : Cal P w K mg base 3 "_law_mixed" (spMixed (TB K)) := cal_mixed T
    have c_law_under : Cal P w K mg base 64 "_law_under" (spUnder (TB K) 63) := cal_under T 63
    have c_law_nodes : Cal P w K mg base 64 "_law_nodes" (spOne (TB K) 63 gNodes) := cal_nodes T 63
    have c_law_swapped : Cal P w K mg base 133 "_law_swapped" (spSwapped (TB K) 63) := cal_swapped T 63
    have c_law_turned : Cal P w K mg base 133 "_law_turned" (spTurned (TB K) 63) := cal_turned T 63
    have c_law_joined : Cal P w K mg base 133 "_law_joined" (spJ (TB K) 30) := cal_joined T
    have c_law_loose : Cal P w K mg base 133 "_law_loose" (spJ (TB K) 30) := cal_loose T
    have c_law_moved : Cal P w K mg base 134 "_law_moved" (spMoved (TB K)) := cal_moved T
    refine ⟨_, (pss_cons (ps_set (i := 2) sc_law_change.nd rfl (Or.inl rfl) (pe_c c_law_under hr (by omega) rfl (pa_cons (pv 1) pa_nil)))
  (pss_cons (ps_set (i := 3) sc_law_change.nd rfl (Or.inl rfl) (pe_c c_law_draw hr (by omega) rfl (pa_cons (pv 0) (pa_cons pe_int pa_nil))))
  (pss_cons (ps_set (i := 4) sc_law_change.nd rfl (Or.inl rfl) (pe_lst pa_nil))
  (pss_cons (ps_if (pt_cmpR op_eq (pv 3) pe_int (nomark _)) (pss_one (ps_ret (pe_c c_law_swapped hr (by omega) rfl (pa_cons (pv 1) (pa_cons (pe_c c_law_of hr (by omega) rfl (pa_cons (pv 0) (pa_cons (pv 2) pa_nil))) pa_nil))))) pss_nil)
  (pss_cons (ps_if (pt_cmpR op_eq (pv 3) pe_int (nomark _)) (pss_cons (ps_set (i := 5) sc_law_change.nd rfl (Or.inl rfl) pe_dnewK)
  (pss_cons (ps_for PassesOwn.never rfl (pi_list (pv 2)) (pg_name (i := 6) sc_law_change.nd rfl (Or.inl rfl)) (pss_one (ps_dput hu (pv 5) (pv 6) (pv 6) rfl)))
  (pss_cons (ps_set (i := 7) sc_law_change.nd rfl (Or.inl rfl) (pe_c c_law_of hr (by omega) rfl (pa_cons (pv 0) (pa_cons (pv 2) pa_nil))))
  (pss_cons (ps_set (i := 8) sc_law_change.nd rfl (Or.inl rfl) (pe_c c_law_of hr (by omega) rfl (pa_cons (pv 0) (pa_cons (pv 2) pa_nil))))
  (pss_cons (ps_dput hu (pv 5) (pv 7) (pv 8) rfl)
  (pss_cons (ps_dput hu (pv 5) (pv 8) (pv 7) rfl)
  (pss_one (ps_ret (pe_c c_law_turned hr (by omega) rfl (pa_cons (pv 1) (pa_cons (pv 5) pa_nil))))))))))) pss_nil)
  (pss_cons (ps_set (i := 9) sc_law_change.nd rfl (Or.inl rfl) (pe_c c_law_of hr (by omega) rfl (pa_cons (pv 0) (pa_cons (pe_c c_law_nodes hr (by omega) rfl (pa_cons (pv 1) pa_nil)) pa_nil))))
  (pss_cons (ps_if (PW.pt (pw_and (pt_cmpR op_eq (pv 3) pe_int (nomark _)) (pw_and (pt_cmpR op_eq (pe_ix ix_tup (pv 9) pe_int (fun _ _ => rfl)) pe_str (nomark _)) (pw_and1 (pt_cmpR op_gt (pe_callB call_len_seq (by rfl) (n_len T) (by decide +kernel) (pa_cons (pe_ix ix_tup (pv 9) pe_int (fun _ _ => rfl)) pa_nil)) pe_int (nomark _)))))) (pss_cons (ps_set (i := 10) sc_law_change.nd rfl (Or.inl rfl) (pe_slice sl_list (pe_c c_law_mixed hr (by omega) rfl (pa_cons (pv 0) (pa_cons (pe_ix ix_tup (pv 9) pe_int (fun _ _ => rfl)) pa_nil))) po_none (po_some pe_int)))
  (pss_one (ps_set (i := 4) sc_law_change.nd rfl (Or.inl rfl) (pe_c c_law_joined hr (by omega) rfl (pa_cons (pv 1) (pa_cons (pe_callB cr_sortedS (by rfl) (n_sorted T) (by decide +kernel) (pa_cons (pe_op op_cat (pe_c c_law_under hr (by omega) rfl (pa_cons (pe_ix ix_list (pv 10) pe_int (fun _ _ => rfl)) pa_nil)) (pe_c c_law_under hr (by omega) rfl (pa_cons (pe_ix ix_list (pv 10) pe_int (fun _ _ => rfl)) pa_nil))) pa_nil)) pa_nil)))))) (pss_one (ps_if (pt_cmpR op_eq (pv 3) pe_int (nomark _)) (pss_one (ps_set (i := 4) sc_law_change.nd rfl (Or.inl rfl) (pe_c c_law_loose hr (by omega) rfl (pa_cons (pv 1) (pa_cons (pe_c c_law_under hr (by omega) rfl (pa_cons (pv 9) pa_nil)) pa_nil))))) pss_nil)))
  (pss_cons (ps_if (pt_cmpR (op_eqD hr.units) (pv 4) (pe_lst pa_nil) (nomark _)) (pss_one (ps_ret (pe_c c_law_moved hr (by omega) rfl (pa_cons (pv 0) (pa_cons (pv 1) pa_nil))))) pss_nil)
  (pss_one (ps_ret (pe_ix ix_list (pv 4) pe_int (fun _ _ => rfl)))))))))))), ?_⟩
    have hh := O.hgt
    have hl := O.lv
    have hp := lv_pos O.good
    have dz : ∀ (z : Int) (n : Nat), decide (V.int z = V.int (n : Int)) = decide (z = n) := fun z n => decide_eq_decide.mpr ⟨fun e => by injection e, fun e => by rw [e]⟩
    refine ⟨_, rfl, v, t, rfl, hR, by omega, O.good, by omega, fun p1 H1 np1 e1 h1 => ?_⟩
    have nb1 := hB.nb np1
    have B1 := hB.step e1
    refine ⟨_, rfl, b, l, 5, rfl, by decide, by decide, B1, fun pk H2 hpk0 hpk1 e2 B2 => ?_⟩
    have h1b := e2.get h1 trivial (by simpa using nb1.1.symm)
    have e02 : Stp (TB K) [b] H H2 := e1.wide.trans e2
    refine ⟨(by show 0 ≤ sizeLine; decide), fun pf hpf => ?_⟩
    have e23 : Stp (TB K) [] H2 (upd H2 pf (.lst [])) := .new hpf
    have hf3 : (upd H2 pf (.lst [])) pf = some (.lst []) := upd_same
    have h13 := e23.get0 h1b trivial
    have B3 := B2.step e23
    have nb3 := B2.nb (.of hpf)
    have e03 : Stp (TB K) [b] H (upd H2 pf (.lst [])) := e02.trans e23.wide
    generalize upd H2 pf (.lst []) = H3 at e23 hf3 h13 B3 e03 ⊢
    have R3 := hR.tup (e03.tup hB.lsts)
    have hlw : t.under.length ≤ 8 := by rw [under_len]; exact O.lv
    refine ⟨_, rfl, rfl, _, rfl, ?_⟩
    rw [show (0 : Int) = ((0 : Nat) : Int) from rfl, dz]
    by_cases pk0 : pk = ((0 : Nat) : Int)
    · rw [decide_eq_true pk0]
      refine iteT ?_
      refine ⟨_, rfl, _, rfl, _, rfl, b, l, p1, _, rfl, h13, nb1.1.symm, ne_strs (under_len t) hp, by rw [List.length_map]; omega, B3, fun i x H4 hx e4 B4 => ?_⟩
      obtain ⟨z, hz, rfl⟩ := str_of_map hx
      have e04 := e03.trans e4
      exact ⟨v, t, z, rfl, R3.tup (e4.tup B3.lsts), by omega, O.good, by omega, e04.tabs hT, fun v' H5 e5 r5 => k v' _ H5 (e04.trans e5.wide) (B4.step e5) r5 (O.of (swap_good O.good) swap_norm (swap_under z t)) (swap_under z t)⟩
    rw [decide_eq_false pk0]
    refine iteF ?_
    refine ⟨_, rfl, rfl, _, rfl, ?_⟩
    rw [show (1 : Int) = ((1 : Nat) : Int) from rfl, dz]
    by_cases pk1 : pk = ((1 : Nat) : Int)
    · rw [decide_eq_true pk1]
      refine iteT ?_
      intro d hd0
      have nd0 : Nw H d := (Nw.of hd0).backB e03 (by simpa using (B3.nb (.of hd0)).1.symm)
      have nbd := B3.nb (.of hd0)
      have ed : Stp (TB K) [] H3 (upd H3 d (.dK [])) := .new hd0
      have hp1d : p1 ≠ d := ne_of_none h13 hd0
      refine ⟨_, rfl, p1, rfl, ⟨_, SqL.of (ed.get0 h13 trivial)⟩, for_list (xs := t.under.map V.str) (fun i σ H' => ∃ (q6 : Option V) (kvs : List (Key × V)), σ = [some (.ref b), some v, some (.ref p1), some (.int pk), some (.ref pf), some (.ref d), q6, none, none, none, none] ∧ Stp (TB K) [b] H H' ∧ Bg H' b l ∧ H' p1 = some (.lst (t.under.map V.str)) ∧ H' d = some (.dK kvs) ∧ kvs.length ≤ i ∧ ∀ (j : Nat) (x : Str), j < i → t.under[j]? = some x → valV kvs (.inr x) = some (.str x))
        ⟨none, [], rfl, e03.trans ed.wide, B3.step ed, ed.get0 h13 trivial, upd_same, Nat.le_refl _, fun j x h => absurd h (Nat.not_lt_zero _)⟩ (fun i σ H' _ ⟨_, _, _, _, _, h, _⟩ => SqL.of h) ?_ ?_⟩
      · rintro i x σ H4 hx ⟨q6, kvs, rfl, e4, B4, w4, d4, hkl, hv⟩
        obtain ⟨z, hz, rfl⟩ := str_of_map hx
        have hil : i < t.under.length := by
          rcases Nat.lt_or_ge i t.under.length with q | q
          · exact q
          · rw [List.getElem?_eq_none q] at hz
            cases hz
        refine ⟨_, rfl, _, rfl, _, rfl, d, _, rfl, DPut.k (k := .inr z) d4 (by rw [zL]; omega), ?_⟩
        refine ⟨_, _, rfl, e4.mut (.inl nd0) d4 trivial, B4.upd nbd.1 nbd.2, by rw [upd_ne hp1d]; exact w4, upd_same, ?_, ?_⟩
        · have := length_putK kvs (.inr z) (V.str z)
          omega
        · intro j x' hj hx'
          rw [valV_put]
          by_cases q : x' = z
          · rw [if_pos (by rw [q]), q]
          · rw [if_neg (fun e => q (by injection e))]
            have hne : j ≠ i := by
              rintro rfl
              rw [hz] at hx'
              injection hx' with hx'
              exact q hx'.symm
            exact hv j x' (by omega) hx'
      · rintro σ H4 ⟨q6, kvs, rfl, e4, B4, w4, d4, hkl, hv⟩
        rw [List.length_map] at hkl hv
        have hall : ∀ x ∈ t.under, valV kvs (.inr x) = some (.str x) := fun x m => by
          obtain ⟨j, hj⟩ := List.mem_iff_getElem?.mp m
          have hjl : j < t.under.length := by
            rcases Nat.lt_or_ge j t.under.length with q | q
            · exact q
            · rw [List.getElem?_eq_none q] at hj
              cases hj
          exact hv j x hjl hj
        refine ⟨_, rfl, _, rfl, b, l, p1, _, rfl, w4, nb1.1.symm, ne_strs (under_len t) hp, by rw [List.length_map]; omega, B4, fun i1 x1 H5 hx1 e5 B5 => ?_⟩
        obtain ⟨o, ho, rfl⟩ := str_of_map hx1
        have w5 := e5.get w4 trivial (by simpa using nb1.1.symm)
        have d5 := e5.get d4 trivial (by simpa using nbd.1.symm)
        refine ⟨_, rfl, _, rfl, b, l, p1, _, rfl, w5, nb1.1.symm, ne_strs (under_len t) hp, by rw [List.length_map]; omega, B5, fun i2 x2 H6 hx2 e6 B6 => ?_⟩
        obtain ⟨o2, ho2, rfl⟩ := str_of_map hx2
        have d6 := e6.get d5 trivial (by simpa using nbd.1.symm)
        have mo := List.mem_of_getElem? ho
        have mo2 := List.mem_of_getElem? ho2
        refine ⟨_, rfl, _, rfl, _, rfl, d, _, rfl, DPut.k (k := .inr o) d6 (by rw [zL]; omega), ?_⟩
        have d7 : (upd H6 d (.dK (putK kvs (.inr o) (.str o2)))) d = some (.dK (putK kvs (.inr o) (.str o2))) := upd_same
        have l7 := length_putK kvs (.inr o) (V.str o2)
        refine ⟨_, rfl, _, rfl, _, rfl, d, _, rfl, DPut.k (k := .inr o2) d7 (by rw [zL]; omega), ?_⟩
        have e06 := (e4.trans e5).trans e6
        have e08 : Stp (TB K) [b] H (upd (upd H6 d (.dK (putK kvs (.inr o) (.str o2)))) d (.dK (putK (putK kvs (.inr o) (.str o2)) (.inr o2) (.str o)))) := (e06.mut (.inl nd0) d6 trivial).mut (.inl nd0) d7 trivial
        have B8 := (B6.upd (o := .dK (putK kvs (.inr o) (.str o2))) nbd.1 nbd.2).upd (o := .dK (putK (putK kvs (.inr o) (.str o2)) (.inr o2) (.str o))) nbd.1 nbd.2
        refine ⟨_, rfl, _, rfl, v, t, d, _, xch o o2, rfl, hR.tup (e08.tup hB.lsts), by omega, O.good, by omega, e08.tabs hT, upd_same, fun x m => ⟨?_, under_nm O.good _ (xch_mem mo mo2 m)⟩, fun v' H9 e9 r9 => ?_⟩
        · rw [valV_put, valV_put]
          unfold xch
          by_cases q2 : x = o2
          · rw [if_pos (by rw [q2]), if_pos q2]
          · rw [if_neg (fun e => q2 (by injection e)), if_neg q2]
            by_cases q1 : x = o
            · rw [if_pos (by rw [q1]), if_pos q1]
            · rw [if_neg (fun e => q1 (by injection e)), if_neg q1]
              exact hall x m
        · have pp := (turn_under (xch o o2) t).trans (xch_perm O.nd mo mo2)
          exact k v' _ H9 (e08.trans e9.wide) (B8.step e9) r9 (O.of (turn_good O.good fun x m => under_nm O.good _ (xch_mem mo mo2 m)) turn_norm pp) pp
    rw [decide_eq_false pk1]
    refine iteF ?_
    refine ⟨_, rfl, _, rfl, v, t, rfl, R3, by omega, O.good, by omega, ?_⟩
    rintro _ H4 e4 ⟨p4, us4, rfl, np4, h4, r4⟩
    have nb4 := B3.nb np4
    have B4 := B3.step e4
    have l4 := nodes_len O.good
    have hus4 := r4.length
    refine ⟨b, l, p4, us4, rfl, h4, nb4.1.symm, ?_, by omega, B4, fun i5 nv H5 hx5 e5 B5 => ?_⟩
    · intro q
      rw [q] at hus4
      cases t with
      | leaf _ _ => simp [Tr.nodes] at hus4
      | grp _ => simp [Tr.nodes] at hus4
    obtain ⟨u, hu, ru⟩ := r4.get hx5
    have hum := List.mem_of_getElem? hu
    obtain ⟨gu, thu, lu⟩ := nodes_good O.good u hum
    have ru5 := ru.tup (e5.tup B4.lsts)
    have e05 : Stp (TB K) [b] H H5 := (e03.trans e4.wide).trans e5
    have hf5 := e5.get (e4.get0 hf3 trivial) trivial (by simpa using nb3.1.symm)
    have R5 := hR.tup (e05.tup hB.lsts)
    have npf : Nw H pf := (Nw.of hpf).backB e02 (by simpa using nb3.1.symm)
    clear h13 h1b h1 nb1 np1
    refine ⟨_, rfl, rfl, _, rfl, ?_⟩
    rw [show (2 : Int) = ((2 : Nat) : Int) from rfl, dz]
    have hem : RTs H5 [] [] := .nil
    have gem : Res [] t [] := .inl rfl
    by_cases pk2 : pk = ((2 : Nat) : Int)
    · rw [decide_eq_true pk2]
      refine iteT ?_
      cases ru5 with
      | @leaf la nm fr hla =>
        have hne : (decide (V.str nm = V.str "")) = false := decide_eq_false (fun e => isNm_ne gu (by injection e))
        refine ⟨_, rfl, la, _, 0, .str nm, rfl, rfl, SqT.of hla, rfl, rfl, _, rfl, ?_⟩
        rw [hne]
        refine iteF ?_
        refine iteF ?_
        refine ⟨_, rfl, rfl, _, rfl, ?_⟩
        rw [show (3 : Int) = ((3 : Nat) : Int) from rfl, dz, decide_eq_false (by omega)]
        refine iteF ?_
        refine ⟨_, rfl, (by show 0 ≤ sizeLine; decide), fun pn hpn => ?_⟩
        have en : Stp (TB K) [] H5 (upd H5 pn (.lst [])) := .new hpn
        have hn := en.get0 hf5 trivial
        have rn := (hem).tup (en.tup lsts_nil)
        have fn := res_few gem (show t.lv < 30 by omega) O.good (by simp)
        have e0n : Stp (TB K) [b] H (upd H5 pn (.lst [])) := (e05).trans en.wide
        refine ⟨.list (dataL ([] : List Tr)), .list [], rts_ne hn rn, .lst (SqL.of upd_same) .nil, shaped_trs fn.1 fn.2, by decide +kernel, ?_⟩
        refine ⟨_, rfl, ?_⟩
        rw [eqv_nil]
        by_cases hem2 : ([] : List Tr) = []
        · rw [decide_eq_true hem2]
          refine iteT ?_
          exact ⟨_, rfl, _, rfl, b, l, v, t, rfl, hR.tup (e0n.tup hB.lsts), O, e0n.tabs hT, (B5).step en, fun v' t' H' e' B' r' O' p' => k v' t' H' (e0n.trans e') B' r' O' p'⟩
        · exact absurd rfl hem2
      | @grp la q ws ps hla hq hps =>
        refine ⟨_, rfl, la, _, 0, .str "", rfl, rfl, SqT.of hla, rfl, rfl, _, rfl, ?_⟩
        refine iteT ?_
        refine ⟨_, rfl, la, _, 1, .ref q, rfl, rfl, SqT.of hla, rfl, q, ws, rfl, .inr (SqT.of hq), ?_⟩
        have hws := hps.length
        rw [hws]
        refine ⟨_, _, rfl, rfl, _, rfl, ?_⟩
        by_cases h3 : 2 < ps.length
        · rw [decide_eq_true (by omega)]
          refine iteT ?_
          have lps := len_lv gu.2
          have lps2 : lvL ps ≤ t.lv := lu
          refine ⟨_, rfl, _, rfl, la, _, 1, .ref q, rfl, rfl, SqT.of hla, rfl, b, l, q, ws, rfl, .inr hq, by omega, B5, fun p6 ys H6 pm e6 B6 np6 h6 => ?_⟩
          obtain ⟨ss, rs, ps2⟩ := RTs.perm pm (hps.tup (Tup.refl))
          have hsl : ss.length = ps.length := ps2.length_eq
          have rs6 := rs.tup (e6.tup B5.lsts)
          refine ⟨_, rfl, p6, _, rfl, SqL.of h6, fun p7 hp7 => ?_⟩
          rw [cut2]
          have e7 : Stp (TB K) [] H6 (upd H6 p7 (.lst (ys.take 2))) := .new hp7
          have rt := (rs6.tup (e7.tup lsts_nil)).take 2
          obtain ⟨u0, u1, eu⟩ : ∃ u0 u1, ss.take 2 = [u0, u1] := by
            match ss, hsl with
            | a :: b :: c, _ => exact ⟨a, b, rfl⟩
            | [a], h => simp at h; omega
            | [], h => simp at h; omega
          rw [eu] at rt
          have m0 : u0 ∈ ps := ps2.mem_iff.mp (List.mem_of_mem_take (i := 2) (by rw [eu]; simp))
          have m1 : u1 ∈ ps := ps2.mem_iff.mp (List.mem_of_mem_take (i := 2) (by rw [eu]; simp))
          have g0 := goodL_mem.mp gu.2 u0 m0
          have g1 := goodL_mem.mp gu.2 u1 m1
          have v0 := lvL_mem m0
          have v1 := lvL_mem m1
          have t0 := hgt_lv g0
          have t1 := hgt_lv g1
          obtain ⟨x0, x1, ex, r0, r1⟩ : ∃ x0 x1, ys.take 2 = [x0, x1] ∧ RT (upd H6 p7 (.lst (ys.take 2))) x0 u0 ∧ RT (upd H6 p7 (.lst (ys.take 2))) x1 u1 := by
            generalize ys.take 2 = yy at rt ⊢
            cases rt with
            | cons a r =>
              cases r with
              | cons c r2 =>
                cases r2 with
                | nil => exact ⟨_, _, rfl, a, c⟩
          have h7 : (upd H6 p7 (.lst (ys.take 2))) p7 = some (.lst [x0, x1]) := by rw [upd_same, ex]
          have e07 : Stp (TB K) [b] H (upd H6 p7 (.lst (ys.take 2))) := (e05.trans e6).trans e7.wide
          have B7 := B6.step e7
          generalize upd H6 p7 (.lst (ys.take 2)) = H7 at e7 r0 r1 h7 e07 B7 ⊢
          refine ⟨_, rfl, _, rfl, p7, _, 0, x0, rfl, rfl, SqL.of h7, atI_nat (j := 0) rfl, x0, u0, rfl, r0, by omega, g0, by omega, fun p8 H8 np8 e8 h8 => ?_⟩
          refine ⟨_, rfl, p7, _, 1, x1, rfl, rfl, SqL.of (e8.get0 h7 trivial), atI_nat (j := 1) rfl, x1, u1, rfl, r1.tup (e8.tup lsts_nil), by omega, g1, by omega, fun p9 H9 np9 e9 h9 => ?_⟩
          refine ⟨p8, p9, _, _, rfl, rfl, e9.get0 h8 trivial, h9, by rw [List.length_map, List.length_map, under_len, under_len, zL]; omega, fun p10 hp10 => ?_⟩
          have e10 := (e8.trans e9).alloc (o := .lst (u0.under.map V.str ++ u1.under.map V.str)) hp10
          have h10 : (upd H9 p10 (.lst (u0.under.map V.str ++ u1.under.map V.str))) p10 = some (.lst ((u0.under ++ u1.under).map V.str)) := by rw [upd_same, List.map_append]
          refine ⟨p10, u0.under ++ u1.under, rfl, SqL.of h10, by rw [List.length_append, under_len, under_len]; omega, fun zs p11 pz1 pz2 hp11 => ?_⟩
          have e11 := e10.alloc (o := .lst (zs.map V.str)) hp11
          have e011 : Stp (TB K) [b] H _ := e07.trans e11.wide
          have hzok : ∀ x ∈ zs, PyData.strOk x = true := fun x m => by
            rcases List.mem_append.mp (pz1.mem_iff.mp m) with q | q
            · exact under_ok g0 x q
            · exact under_ok g1 x q
          refine ⟨v, t, p11, zs, rfl, ⟨hR.tup (e011.tup hB.lsts), by omega, O.good, O.norm, by omega, e011.tabs hT, upd_same, hzok⟩, fun pg gs ts12 H12 e12 np12 h12 r12 g12 => ?_⟩
          have eX : Stp (TB K) [b] H H12 := e011.trans e12.wide
          have BX := (B7.step e11).step e12
          refine ⟨_, rfl, (by show 0 ≤ sizeLine; decide), fun pn hpn => ?_⟩
          have en : Stp (TB K) [] H12 (upd H12 pn (.lst [])) := .new hpn
          have hn := en.get0 h12 trivial
          have rn := (r12).tup (en.tup lsts_nil)
          have fn := res_few g12 (show t.lv < 30 by omega) O.good (by simp)
          have e0n : Stp (TB K) [b] H (upd H12 pn (.lst [])) := (eX).trans en.wide
          refine ⟨.list (dataL (ts12 : List Tr)), .list [], rts_ne hn rn, .lst (SqL.of upd_same) .nil, shaped_trs fn.1 fn.2, by decide +kernel, ?_⟩
          refine ⟨_, rfl, ?_⟩
          rw [eqv_nil]
          by_cases hem2 : (ts12 : List Tr) = []
          · rw [decide_eq_true hem2]
            refine iteT ?_
            exact ⟨_, rfl, _, rfl, b, l, v, t, rfl, hR.tup (e0n.tup hB.lsts), O, e0n.tabs hT, (BX).step en, fun v' t' H' e' B' r' O' p' => k v' t' H' (e0n.trans e') B' r' O' p'⟩
          · rw [decide_eq_false hem2]
            refine iteF ?_
            obtain ⟨t', et, g', n', p'⟩ := (g12).resolve_left hem2
            rw [et] at rn
            obtain ⟨us2, eus⟩ : ∃ us2 : List V, us2 = (gs : List V) := ⟨_, rfl⟩
            rw [← eus] at rn hn
            cases rn with
            | @cons tv tvs tt tts htv htr =>
              exact ⟨_, rfl, pg, _, 0, tv, rfl, rfl, SqL.of hn, atI_nat (j := 0) rfl, k tv t' _ e0n ((BX).step en) htv (O.of g' n' p') p'⟩
        · rw [decide_eq_false (by omega)]
          refine iteF ?_
          refine ⟨_, rfl, rfl, _, rfl, ?_⟩
          rw [show (3 : Int) = ((3 : Nat) : Int) from rfl, dz, decide_eq_false (by omega)]
          refine iteF ?_
          refine ⟨_, rfl, (by show 0 ≤ sizeLine; decide), fun pn hpn => ?_⟩
          have en : Stp (TB K) [] H5 (upd H5 pn (.lst [])) := .new hpn
          have hn := en.get0 hf5 trivial
          have rn := (hem).tup (en.tup lsts_nil)
          have fn := res_few gem (show t.lv < 30 by omega) O.good (by simp)
          have e0n : Stp (TB K) [b] H (upd H5 pn (.lst [])) := (e05).trans en.wide
          refine ⟨.list (dataL ([] : List Tr)), .list [], rts_ne hn rn, .lst (SqL.of upd_same) .nil, shaped_trs fn.1 fn.2, by decide +kernel, ?_⟩
          refine ⟨_, rfl, ?_⟩
          rw [eqv_nil]
          by_cases hem2 : ([] : List Tr) = []
          · rw [decide_eq_true hem2]
            refine iteT ?_
            exact ⟨_, rfl, _, rfl, b, l, v, t, rfl, hR.tup (e0n.tup hB.lsts), O, e0n.tabs hT, (B5).step en, fun v' t' H' e' B' r' O' p' => k v' t' H' (e0n.trans e') B' r' O' p'⟩
          · exact absurd rfl hem2
    rw [decide_eq_false pk2]
    refine iteF ?_
    refine iteF ?_
    refine ⟨_, rfl, rfl, _, rfl, ?_⟩
    rw [show (3 : Int) = ((3 : Nat) : Int) from rfl, dz]
    by_cases pk3 : pk = ((3 : Nat) : Int)
    · rw [decide_eq_true pk3]
      refine iteT ?_
      refine ⟨_, rfl, _, rfl, nv, u, rfl, ru5, by omega, gu, by omega, fun p6 H6 np6 e6 h6 => ?_⟩
      have e06 : Stp (TB K) [b] H H6 := e05.trans e6.wide
      refine ⟨v, t, p6, u.under, rfl, ⟨hR.tup (e06.tup hB.lsts), by omega, O.good, O.norm, by omega, e06.tabs hT, h6, under_ok gu⟩, fun pg gs ts12 H12 e12 np12 h12 r12 g12 => ?_⟩
      have eX : Stp (TB K) [b] H H12 := e06.trans e12.wide
      have BX := (B5.step e6).step e12
      refine ⟨_, rfl, (by show 0 ≤ sizeLine; decide), fun pn hpn => ?_⟩
      have en : Stp (TB K) [] H12 (upd H12 pn (.lst [])) := .new hpn
      have hn := en.get0 h12 trivial
      have rn := (r12).tup (en.tup lsts_nil)
      have fn := res_few g12 (show t.lv < 30 by omega) O.good (by simp)
      have e0n : Stp (TB K) [b] H (upd H12 pn (.lst [])) := (eX).trans en.wide
      refine ⟨.list (dataL (ts12 : List Tr)), .list [], rts_ne hn rn, .lst (SqL.of upd_same) .nil, shaped_trs fn.1 fn.2, by decide +kernel, ?_⟩
      refine ⟨_, rfl, ?_⟩
      rw [eqv_nil]
      by_cases hem2 : (ts12 : List Tr) = []
      · rw [decide_eq_true hem2]
        refine iteT ?_
        exact ⟨_, rfl, _, rfl, b, l, v, t, rfl, hR.tup (e0n.tup hB.lsts), O, e0n.tabs hT, (BX).step en, fun v' t' H' e' B' r' O' p' => k v' t' H' (e0n.trans e') B' r' O' p'⟩
      · rw [decide_eq_false hem2]
        refine iteF ?_
        obtain ⟨t', et, g', n', p'⟩ := (g12).resolve_left hem2
        rw [et] at rn
        obtain ⟨us2, eus⟩ : ∃ us2 : List V, us2 = (gs : List V) := ⟨_, rfl⟩
        rw [← eus] at rn hn
        cases rn with
        | @cons tv tvs tt tts htv htr =>
          exact ⟨_, rfl, pg, _, 0, tv, rfl, rfl, SqL.of hn, atI_nat (j := 0) rfl, k tv t' _ e0n ((BX).step en) htv (O.of g' n' p') p'⟩
    · rw [decide_eq_false pk3]
      refine iteF ?_
      refine ⟨_, rfl, (by show 0 ≤ sizeLine; decide), fun pn hpn => ?_⟩
      have en : Stp (TB K) [] H5 (upd H5 pn (.lst [])) := .new hpn
      have hn := en.get0 hf5 trivial
      have rn := (hem).tup (en.tup lsts_nil)
      have fn := res_few gem (show t.lv < 30 by omega) O.good (by simp)
      have e0n : Stp (TB K) [b] H (upd H5 pn (.lst [])) := (e05).trans en.wide
      refine ⟨.list (dataL ([] : List Tr)), .list [], rts_ne hn rn, .lst (SqL.of upd_same) .nil, shaped_trs fn.1 fn.2, by decide +kernel, ?_⟩
      refine ⟨_, rfl, ?_⟩
      rw [eqv_nil]
      by_cases hem2 : ([] : List Tr) = []
      · rw [decide_eq_true hem2]
        refine iteT ?_
        exact ⟨_, rfl, _, rfl, b, l, v, t, rfl, hR.tup (e0n.tup hB.lsts), O, e0n.tabs hT, (B5).step en, fun v' t' H' e' B' r' O' p' => k v' t' H' (e0n.trans e') B' r' O' p'⟩
      · exact absurd rfl hem2) (g_law_change T)
end
end K3

/-! Written shapes: their words, and the tree they stand for. -/
namespace LB
open PySem PySem.Spec PyProof.Rows L2 LamX LK
theorem bar_cps : ("|" : Str).cps.toList = [124] := by decide +kernel
theorem ends_last {x : Str} {l : List Nat} {c : Nat} (h : x.cps.toList = l ++ [c]) : Txt.endswith x "|" = decide (c = 124) := by
  have hl := len_cps x
  rw [h, List.length_append] at hl
  have h1 : ("|" : Str).length = 1 := by decide
  unfold Txt.endswith
  rw [StrLaws.subAt_eq, h, h1, bar_cps, hl]
  have e1 : (l.length + [c].length - 1) = l.length := by simp
  rw [e1, List.drop_append_of_le_length (Nat.le_refl _), List.drop_length, List.nil_append]
  by_cases q : c = 124
  · subst q
    simp
  · simp [q]
theorem nm_last {nm : Str} (h : isNm nm = true) : ∃ l c, nm.cps.toList = l ++ [c] ∧ c ≠ 124 := by
  obtain ⟨c0, r, e, _, ha⟩ := isNm_cps h
  have hne : nm.cps.toList ≠ [] := by rw [e]; simp
  refine ⟨nm.cps.toList.dropLast, nm.cps.toList.getLast hne, (List.dropLast_concat_getLast hne).symm, ?_⟩
  rcases ha _ (List.getLast_mem hne) with q | q
  · have := letters_lt q
    omega
  · have := digits_lt q
    omega
theorem ends_leaf {nm : Str} {fr : Bool} (h : isNm nm = true) : Txt.endswith (Tr.leaf nm fr).text "|" = !fr := by
  cases fr with
  | false =>
    show Txt.endswith (nm ++ "|") "|" = true
    rw [ends_last (l := nm.cps.toList) (c := 124) (by rw [cpsA, bar_cps])]
    rfl
  | true =>
    show Txt.endswith nm "|" = false
    obtain ⟨l, c, e, hc⟩ := nm_last h
    rw [ends_last e]
    exact decide_eq_false hc
theorem cut_bar (nm : Str) : cutS (nm ++ "|") none (some (-1)) = nm := by
  refine str_ext ?_
  unfold cutS
  have h1 : (nm ++ "|" : Str).length = nm.length + 1 := by rw [lenA]; rfl
  show (((nm ++ "|" : Str).cps.toList.drop 0).take _) = _
  rw [List.drop_zero, cpsA, bar_cps]
  have h2 : HT.sIx (nm ++ "|" : Str).length (nm ++ "|" : Str).length (some (-1)) - HT.sIx (nm ++ "|" : Str).length 0 none = nm.cps.toList.length := by
    rw [h1, HT.sIx_none, Nat.sub_zero, ← len_cps]
    show ((-1 : Int) + ((nm.length + 1 : Nat) : Int)).toNat = nm.length
    omega
  rw [h2, List.take_append_of_le_length (Nat.le_refl _), List.take_length]

/-! ### written shapes -/
inductive Sx where
  | leaf (nm : Str) (fr : Bool)
  | br (xs : List Sx)
/-- what stands between brackets: a single thing is itself -/
def bra : List Tr → Tr
  | [t] => t
  | ts => group ts
mutual
def Sx.val : Sx → Tr
  | .leaf nm fr => .leaf nm fr
  | .br xs => bra (valL xs)
def valL : List Sx → List Tr
  | [] => []
  | x :: xs => x.val :: valL xs
end
mutual
def Sx.words : Sx → List Str
  | .leaf nm fr => [(Tr.leaf nm fr).text]
  | .br xs => ("(" : Str) :: (wordsL xs ++ [(")" : Str)])
def wordsL : List Sx → List Str
  | [] => []
  | x :: xs => x.words ++ wordsL xs
end
mutual
def Sx.nms : Sx → List Str
  | .leaf nm _ => [nm]
  | .br xs => nmsL xs
def nmsL : List Sx → List Str
  | [] => []
  | x :: xs => x.nms ++ nmsL xs
end
mutual
def Sx.dep : Sx → Nat
  | .leaf _ _ => 0
  | .br xs => 1 + depL xs
def depL : List Sx → Nat
  | [] => 0
  | x :: xs => max x.dep (depL xs)
end
mutual
def Sx.ok : Sx → Prop
  | .leaf nm _ => isNm nm = true
  | .br xs => xs ≠ [] ∧ okL xs
def okL : List Sx → Prop
  | [] => True
  | x :: xs => x.ok ∧ okL xs
end
theorem bra_two {ts : List Tr} (h : 2 ≤ ts.length) : bra ts = group ts := by
  match ts, h with
  | a :: b :: c, _ => rfl
theorem valL_len : ∀ xs : List Sx, (valL xs).length = xs.length
  | [] => rfl
  | x :: xs => congrArg (· + 1) (valL_len xs)
theorem bra_good {ts : List Tr} (h : goodL ts) (n : ts ≠ []) : (bra ts).good := by
  match ts, n with
  | [t], _ => exact h.1
  | a :: b :: c, _ => exact group_good h (by simp)
theorem bra_norm {ts : List Tr} (h : normL ts) (n : ts ≠ []) : (bra ts).norm := by
  match ts, n with
  | [t], _ => exact h.1
  | a :: b :: c, _ => exact group_norm h
theorem bra_under {ts : List Tr} (n : ts ≠ []) : (bra ts).under.Perm (underL ts) := by
  match ts, n with
  | [t], _ => exact List.Perm.of_eq (List.append_nil _).symm
  | a :: b :: c, _ =>
    show (group _).under.Perm _
    rw [group_under]
    exact sortS_perm _
theorem valL_ne {xs : List Sx} (h : xs ≠ []) : valL xs ≠ [] := by
  cases xs with
  | nil => exact absurd rfl h
  | cons x xs => simp [valL]
mutual
theorem val_good : ∀ {S : Sx}, S.ok → S.val.good
  | .leaf nm fr, h => h
  | .br xs, h => bra_good (valL_good h.2) (valL_ne h.1)
theorem valL_good : ∀ {xs : List Sx}, okL xs → goodL (valL xs)
  | [], _ => trivial
  | x :: xs, h => ⟨val_good h.1, valL_good h.2⟩
end
mutual
theorem val_norm : ∀ {S : Sx}, S.ok → S.val.norm
  | .leaf nm fr, h => trivial
  | .br xs, h => bra_norm (valL_norm h.2) (valL_ne h.1)
theorem valL_norm : ∀ {xs : List Sx}, okL xs → normL (valL xs)
  | [], _ => trivial
  | x :: xs, h => ⟨val_norm h.1, valL_norm h.2⟩
end
mutual
theorem val_under : ∀ {S : Sx}, S.ok → S.val.under.Perm S.nms
  | .leaf nm fr, h => .refl _
  | .br xs, h => (bra_under (valL_ne h.1)).trans (valL_under h.2)
theorem valL_under : ∀ {xs : List Sx}, okL xs → (underL (valL xs)).Perm (nmsL xs)
  | [], _ => .refl _
  | x :: xs, h => (val_under h.1).append (valL_under h.2)
end
/-! ### the stack of read_words, the last level first -/
abbrev Stk := List (List Tr)
inductive Stp1 : Stk → List Str → Str → Stk → List Str → Prop
  | opn {m : Stk} {s : List Str} : (m.length = 1 → m = [[]]) → m.length ≤ 8 → m ≠ [] → Stp1 m s "(" ([] :: m) s
  | cls {i l : List Tr} {m : Stk} {s : List Str} : i ≠ [] → goodL i → lvL i < 64 → Stp1 (i :: l :: m) s ")" ((l ++ [bra i]) :: m) s
  | nam {l : List Tr} {m : Stk} {s : List Str} {nm : Str} {fr : Bool} : (m = [] → l = []) → isNm nm = true → nm ∉ s → Stp1 (l :: m) s (Tr.leaf nm fr).text ((l ++ [.leaf nm fr]) :: m) (nm :: s)
def Run (F : Stk → List Str → Prop) : List Str → Stk → List Str → Prop
  | [], m, s => F m s
  | w :: ws, m, s => ∃ m1 s1, Stp1 m s w m1 s1 ∧ Run F ws m1 s1
mutual
theorem run_S : ∀ {S : Sx} {ws : List Str} {l : List Tr} {m : Stk} {s : List Str} {F : Stk → List Str → Prop}, S.ok → (m = [] → l = []) → m.length + 1 + S.dep ≤ 9 → S.nms.Nodup → S.nms.length < 64 → (∀ x ∈ S.nms, x ∉ s) →
    (∀ s1 : List Str, (∀ x, x ∈ s1 ↔ x ∈ S.nms ∨ x ∈ s) → s1.length = S.nms.length + s.length → Run F ws ((l ++ [S.val]) :: m) s1) → Run F (S.words ++ ws) (l :: m) s
  | .leaf nm fr, ws, l, m, s, F, ok, hm, hd, hn, hb, hs, k => ⟨_, _, .nam hm ok (hs nm (by simp [Sx.nms])), k _ (fun x => by simp [Sx.nms]) (by simp [Sx.nms]; omega)⟩
  | .br xs, ws, l, m, s, F, ok, hm, hd, hn, hb, hs, k => by
    have hd2 : m.length + 1 + (1 + depL xs) ≤ 9 := hd
    refine ⟨_, _, .opn (fun h => ?_) (by simp only [List.length_cons]; omega) (by simp), ?_⟩
    · simp only [List.length_cons] at h
      have hm0 : m = [] := List.eq_nil_of_length_eq_zero (by omega)
      rw [hm hm0, hm0]
    · show Run F ((wordsL xs ++ [(")" : Str)]) ++ ws) ([] :: l :: m) s
      rw [List.append_assoc]
      refine run_L (l := []) (m := l :: m) ok.2 (by simp) (by simp only [List.length_cons]; omega) hn hb hs fun s1 h1 h2 => ?_
      exact ⟨_, _, .cls (by rw [List.nil_append]; exact valL_ne ok.1) (by rw [List.nil_append]; exact valL_good ok.2) (by
        rw [List.nil_append, ← underL_len, (valL_under ok.2).length_eq]
        exact hb), by rw [List.nil_append]; exact k s1 h1 h2⟩
theorem run_L : ∀ {xs : List Sx} {ws : List Str} {l : List Tr} {m : Stk} {s : List Str} {F : Stk → List Str → Prop}, okL xs → m ≠ [] → m.length + 1 + depL xs ≤ 9 → (nmsL xs).Nodup → (nmsL xs).length < 64 → (∀ x ∈ nmsL xs, x ∉ s) →
    (∀ s1 : List Str, (∀ x, x ∈ s1 ↔ x ∈ nmsL xs ∨ x ∈ s) → s1.length = (nmsL xs).length + s.length → Run F ws ((l ++ valL xs) :: m) s1) → Run F (wordsL xs ++ ws) (l :: m) s
  | [], ws, l, m, s, F, ok, hm, hd, hn, hb, hs, k => by
    have := k s (fun x => by simp [nmsL]) (by simp [nmsL])
    rw [show valL [] = [] from rfl, List.append_nil] at this
    exact this
  | x :: xs, ws, l, m, s, F, ok, hm, hd, hn, hb, hs, k => by
    have hd2 : m.length + 1 + max x.dep (depL xs) ≤ 9 := hd
    have hn2 : (x.nms ++ nmsL xs).Nodup := hn
    have hs2 : ∀ y ∈ x.nms ++ nmsL xs, y ∉ s := hs
    rw [List.nodup_append] at hn2
    have hb2 : (x.nms ++ nmsL xs).length < 64 := hb
    rw [List.length_append] at hb2
    show Run F (x.words ++ wordsL xs ++ ws) (l :: m) s
    rw [List.append_assoc]
    refine run_S ok.1 (fun z => absurd z hm) (by omega) hn2.1 (by omega) (fun y my => hs2 y (List.mem_append_left _ my)) fun s1 h1 h2 => ?_
    refine run_L ok.2 hm (by omega) hn2.2.1 (by omega) (fun y my => fun q => ?_) fun s3 h3 h4 => ?_
    · rcases (h1 y).mp q with q | q
      · exact hn2.2.2 y q y my rfl
      · exact hs2 y (List.mem_append_right _ my) q
    · have := k s3 (fun y => by
        rw [h3, h1]
        show _ ↔ y ∈ x.nms ++ nmsL xs ∨ y ∈ s
        rw [List.mem_append]
        constructor
        · rintro (h | h | h)
          · exact .inl (.inr h)
          · exact .inl (.inl h)
          · exact .inr h
        · rintro ((h | h) | h)
          · exact .inr (.inl h)
          · exact .inl h
          · exact .inr (.inr h)) (by
        show _ = (x.nms ++ nmsL xs).length + s.length
        rw [List.length_append]
        omega)
      rw [show valL (x :: xs) = x.val :: valL xs from rfl] at this
      rw [List.append_assoc]
      exact this
end
/-- a whole written shape, from the empty stack -/
theorem run_top {S : Sx} (ok : S.ok) (hd : S.dep ≤ 8) (hn : S.nms.Nodup) (hb : S.nms.length < 64) : Run (fun m s => m = [[S.val]] ∧ s.length = S.nms.length) S.words [[]] [] := by
  rw [← List.append_nil S.words]
  exact run_S ok (fun _ => rfl) (by simp only [List.length_nil]; omega) hn hb (fun _ _ h => by cases h) fun s1 _ h2 => ⟨rfl, by simpa using h2⟩
end LB

namespace K3
open PySem PySem.Spec PyProof.Rows L2 LamX LK LB
section
variable {P : Program} {w : World} {K : PySem.W.Frag} {mg : Str → Option Value} {base : Heap}
theorem fixed_barred : w_FIXED_WORDS = barred := rfl
theorem cal_isname (T : Tx K mg base) : Cal P w K mg base 2 "is_name" (spNamed (TB K)) :=
  cal_mk (fn_is_name T (k := 1) (fun vs H Q E ⟨z, e, _⟩ => by rw [e]; rfl) fun A outer s H vs Q E hr h => by
    obtain ⟨z, rfl, hz, k⟩ := h
    refine ⟨_, (pss_cons (ps_if (PW.pt (pw_or (pt_not (pt_val (pe_callB call_isi (by rfl) (n_isinstance T) (by decide +kernel) (pa_cons (pv 0) (pa_cons (pe_bltn (v := .ty "str") (u := .type "str") (by rfl) (n_str T) (by decide +kernel) rfl) pa_nil))))) (pw_or (pt_not (pt_chain op_le op_le pe_int (pe_callB call_len_str (by rfl) (n_len T) (by decide +kernel) (pa_cons (pv 0) pa_nil)) (pe_gc rfl (k_LONGEST_NAME T)))) (pw_or1 (pt_cmpR op_in_seq (pv 0) (pe_gc (v := .ref (He.ga K "FIXED_WORDS")) rfl ⟨_, (g_FIXED_WORDS T), rfl⟩) (by rfl)))))) (pss_one (ps_ret pe_bl)) pss_nil)
  (pss_one (ps_ret (pe_and (pe_cmpR op_in_sign (pe_ix ix_str (pv 0) pe_int (fun _ _ => rfl)) (pe_gc rfl (k_LETTERS T)) (by rfl)) (pe_one (pe_callB (cr_all rfl) (by rfl) (n_all T) (by decide +kernel) (pa_cons (pe_lc (own := [("sign", 1)]) (g := gName 1) (tt := tYes) rfl sc_is_name.nd (pi_str (pv 0)) (blkOk_by (own := [("sign", 1)]) (N := N_is_name) (sc := defScope s_is_name) (by decide +kernel)) (fun _ _ _ _ _ => (pg_name (i := 1) sc_is_name.nd rfl (Or.inl rfl))) (fun _ _ _ _ _ => pts_nil) (fun _ _ _ _ _ => (pe_or (pe_cmpR op_in_sign (pv 1) (pe_gc rfl (k_LETTERS T)) (by rfl)) (pe_one (pe_cmpR op_in_sign (pv 1) (pe_gc rfl (k_DIGITS T)) (by rfl)))))) pa_nil))))))), ?_⟩
    have hzL : z.length ≤ sizeLine := by rw [zL]; omega
    have no : ∀ H', Stp (TB K) [] H H' → isNm z = false → Q (.bl false) H' := fun H' e h => by
      have := k H' e
      rw [h] at this
      exact this
    have hcl := len_cps z
    refine ⟨_, rfl, .str z, .ty "str", .type "str", .type "str", true, rfl, .ty _, .base (.str _), rfl, _, rfl, ?_⟩
    refine iteF ?_
    refine ⟨_, rfl, z, rfl, hzL, _, _, rfl, rfl, _, rfl, ?_⟩
    by_cases h1 : z.length < 1
    · rw [decide_eq_false (by omega)]
      refine iteF ?_
      refine ⟨_, rfl, ?_⟩
      refine iteT ?_
      refine iteT ?_
      refine no _ .refl ?_
      rw [← Bool.not_eq_true, isNm_iff]
      rintro ⟨q, _⟩
      omega
    rw [decide_eq_true (by omega)]
    refine iteT ?_
    refine ⟨_, _, rfl, rfl, _, rfl, ?_⟩
    by_cases h8 : 8 < z.length
    · rw [decide_eq_false (by omega)]
      refine iteT ?_
      refine iteT ?_
      refine no _ .refl ?_
      rw [← Bool.not_eq_true, isNm_iff]
      rintro ⟨_, q, _⟩
      omega
    rw [decide_eq_true (by omega)]
    refine iteF ?_
    refine ⟨_, rfl, _, _, rfl, .inr (t_FIXED_WORDS T H), rfl, flat_strs _, ?_⟩
    refine ⟨_, rfl, ?_⟩
    rw [if_neg Bool.false_ne_true, inV_str, fixed_barred]
    by_cases hb : z ∈ barred
    · rw [decide_eq_true hb]
      refine iteT ?_
      refine no _ .refl ?_
      rw [← Bool.not_eq_true, isNm_iff]
      rintro ⟨_, _, q, _⟩
      exact q hb
    rw [decide_eq_false hb]
    refine iteF ?_
    have hc0 : z.cps.toList[0]? = some (z.cps.toList[0]'(by omega)) := List.getElem?_eq_getElem (by omega)
    generalize z.cps.toList[0]'(by omega) = c at hc0
    refine ⟨_, rfl, z, _, c, rfl, rfl, hzL, atI_nat (j := 0) hc0, c, _, rfl, rfl, ?_⟩
    rw [alpha_cps]
    refine ⟨_, rfl, ?_⟩
    by_cases hc : c ∈ letters
    · rw [decide_eq_true hc]
      refine iteT ?_
      refine ⟨_, rfl, z, rfl, fun D hD => ?_⟩
      refine lc_accY (T := TB K) (B := []) walk_str (fun i x => ∃ c, z.cps[i]? = some c ∧ x = .str ⟨#[c]⟩) (fun i H x H' h => h) (fun _ => True) .refl hD (by simp) hzL
        (fun i _ acc => acc = ((z.cps.toList.take i).map fun c => decide (c ∈ letters) || decide (c ∈ digits)).map V.bl) (fun _ => rfl) (fun _ _ _ _ _ h => h) trivial (fun _ _ _ => trivial) (fun _ _ _ => trivial) ?_ ?_
      · rintro i x H2 Nx hi ⟨d, hd, rfl⟩ e2 _ kk
        have hd2 : z.cps.toList[i]? = some d := by rw [Array.getElem?_toList]; exact hd
        have fin : ∀ b : Bool, b = (decide (d ∈ letters) || decide (d ∈ digits)) → ∃ acc, H2 D = some (.lst acc) ∧ acc.length < sizeLine ∧ Nx (upd H2 D (.lst (acc ++ [.bl b]))) := fun b hb => kk _ _ .refl trivial fun acc _ ha => by
          rw [ha, take_snoc hd2, List.map_append, List.map_append, hb]
          rfl
        refine ⟨rfl, _, rfl, d, _, rfl, rfl, ?_⟩
        rw [alpha_cps]
        refine ⟨_, rfl, ?_⟩
        by_cases hdl : d ∈ letters
        · rw [decide_eq_true hdl]
          refine iteT ?_
          exact fin _ (by rw [decide_eq_true hdl]; rfl)
        · rw [decide_eq_false hdl]
          refine iteF ?_
          refine ⟨_, rfl, d, _, rfl, rfl, ?_⟩
          rw [digit_cps]
          exact fin _ (by rw [decide_eq_false hdl, Bool.false_or])
      · intro H' ys e2 _ hD2 hy
        have hsz : z.cps.size = z.cps.toList.length := by rw [Array.length_toList]
        rw [hsz, List.take_length] at hy
        subst hy
        refine ⟨D, _, rfl, SqL.of hD2, ?_⟩
        have hr2 := k H' e2
        have e : (z.cps.toList.map fun c => decide (c ∈ letters) || decide (c ∈ digits)).all id = isNm z := by
          rw [Bool.eq_iff_iff, isNm_iff, List.all_map, List.all_eq_true]
          constructor
          · intro h
            refine ⟨by omega, by omega, hb, fun j d hd => ?_⟩
            have hm := h d (List.mem_of_getElem? hd)
            simp only [Function.comp, id, Bool.or_eq_true, decide_eq_true_eq] at hm
            rcases hm with q | q
            · exact .inl q
            · by_cases hj : j = 0
              · subst hj
                rw [hc0] at hd
                injection hd with hd
                rw [← hd]
                exact .inl hc
              · exact .inr ⟨hj, q⟩
          · rintro ⟨_, _, _, h⟩ d md
            obtain ⟨j, hj⟩ := List.mem_iff_getElem?.mp md
            simp only [Function.comp, id, Bool.or_eq_true, decide_eq_true_eq]
            rcases h j d hj with q | q
            · exact .inl q
            · exact .inr q.2
        rw [e]
        exact hr2
    · rw [decide_eq_false hc]
      refine iteF ?_
      refine no _ .refl ?_
      rw [← Bool.not_eq_true, isNm_iff]
      rintro ⟨_, _, _, q⟩
      rcases q 0 c hc0 with q | q
      · exact hc q
      · exact q.1 rfl) (g_is_name T)

def spBare : Sp := fun vs H Q _ => ∃ (nm : Str) (fr : Bool), vs = [.str (Tr.leaf nm fr).text] ∧ isNm nm = true ∧ Q (.str nm) H
theorem leafW_len {nm : Str} {fr : Bool} (h : isNm nm = true) : (Tr.leaf nm fr).text.length ≤ 9 := by
  have := text_len (t := .leaf nm fr) h
  have h2 : (Tr.leaf nm fr).lv = 1 := rfl
  omega
theorem cal_bare (T : Tx K mg base) : Cal P w K mg base 1 "bare_name" spBare :=
  cal_mk (fn_bare_name T (k := 0) (fun vs H Q E ⟨z, fr, e, _⟩ => by rw [e]; rfl) fun A outer s H vs Q E hr h => by
    obtain ⟨nm, fr, rfl, hn, k⟩ := h
    refine ⟨_, (pss_one (ps_ret (pe_ifExp (pt_val (pe_m1 PySem.F.slot_str_endswith PySem.F.type_str_endswith mt_endswith (pv 0) pe_str)) (pe_slice sl_str (pv 0) po_none (po_some (pe_un un_neg pe_int))) (pv 0)))), ?_⟩
    refine ⟨_, rfl, ⟨_, rfl⟩, _, _, rfl, rfl, ?_⟩
    rw [ends_leaf hn]
    refine ⟨_, rfl, ?_⟩
    have hl := leafW_len (fr := fr) hn
    cases fr with
    | false =>
      refine iteT ?_
      refine ⟨_, rfl, _, rfl, _, rfl, _, rfl, by rw [zL]; omega, ?_⟩
      have e : cutS (Tr.leaf nm false).text none (some (-1)) = nm := cut_bar nm
      rw [show (-(1 : Int)) = -1 from rfl, e]
      exact k
    | true =>
      refine iteF ?_
      exact ⟨_, rfl, k⟩) (g_bare_name T)

def spLane (Tb : TBs) : Sp := fun vs H Q _ => ∃ (nm : Str) (fr : Bool), vs = [.str nm, .str (if fr then "o" else "|")] ∧ isNm nm = true ∧ ∀ H', Stp Tb [] H H' → Q (.str (Tr.leaf nm fr).text) H'
theorem cal_lane (T : Tx K mg base) : Cal P w K mg base 3 "lane_word" (spLane (TB K)) :=
  cal_mk (fn_lane_word T (k := 2) (fun vs H Q E ⟨z, fr, e, _⟩ => by rw [e]; rfl) fun A outer s H vs Q E hr h => by
    obtain ⟨nm, fr, rfl, hn, k⟩ := h
    have c_is_name : Cal P w K mg base 2 "is_name" (spNamed (TB K)) := cal_isname T
    refine ⟨_, (pss_cons (ps_if (pt_not (pt_val (pe_c c_is_name hr (by omega) rfl (pa_cons (pv 0) pa_nil)))) (pss_one (ps_ret pe_str)) pss_nil)
  (pss_one (ps_ret (pe_ifExp (pt_cmpR op_eq (pv 1) pe_str (nomark _)) (pe_op op_add_str (pv 0) pe_str) (pv 0))))), ?_⟩
    have h8 := (isNm_len hn).2
    refine ⟨_, rfl, nm, rfl, by omega, fun H1 e1 => ?_⟩
    rw [hn]
    refine ⟨_, rfl, ?_⟩
    refine iteF ?_
    refine ⟨_, rfl, rfl, _, rfl, ?_⟩
    cases fr with
    | true =>
      refine iteF ?_
      exact ⟨_, rfl, k H1 e1⟩
    | false =>
      refine iteT ?_
      refine ⟨_, rfl, _, _, rfl, rfl, Nat.le_trans (Nat.add_le_add_right h8 _) (by decide), k H1 e1⟩) (g_lane_word T)

def spGF (Tb : TBs) : Sp := fun vs H Q _ => ∃ (l : Addr) (fs : List Str), vs = [.ref l] ∧ H l = some (.lst (fs.map V.str)) ∧ (fs.map (·.length)).sum ≤ 1000 ∧ fs.length ≤ 1000 ∧ Tabs Tb H ∧ ∀ H', Stp Tb [] H H' → Q (.str ("(" ++ Txt.join "" (sortF fs) ++ ")")) H'
theorem cal_gf (T : Tx K mg base) : Cal P w K mg base 9 "group_form" (spGF (TB K)) :=
  cal_mk (fn_group_form T (k := 8) (fun vs H Q E ⟨l, fs, e, _⟩ => by rw [e]; rfl) fun A outer s H vs Q E hr h => by
    obtain ⟨l, fs, rfl, hl, hs, hn, hT, k⟩ := h
    refine ⟨_, (pss_one (ps_ret (pe_op op_add_str (pe_op op_add_str pe_str (pe_join pe_str (pe_sortedLam (T := TB K) (a0 := "form") (Nl := ["form"]) (k := 4) (tb := tKeyF) (by rfl) (n_sorted T) (pa_cons (pv 0) pa_nil) (T.tb _ (List.mem_of_getElem? (i := 2) rfl)) rfl (lamT_mem (i := 2) rfl) (lamT_one T.nd (i := 2) rfl) (hr.mono (by omega))
      ⟨rfl, rfl, rfl, by decide +kernel, rfl, by decide +kernel, by decide +kernel⟩
      (fun A' outer' s' H' f' c' hr' => pe_tup (pa_cons (pe_un un_neg (pe_callB call_len_str (by rfl) (n_len T) (by decide +kernel) (pa_cons (pv 0) pa_nil))) (pa_cons (pv 0) pa_nil)))))) pe_str))), ?_⟩
    have hn2 : (sortF fs).length = fs.length := (sortF_perm _).length_eq
    have hs2 : ((sortF fs).map (·.length)).sum = (fs.map (·.length)).sum := ((sortF_perm _).map _).sum_nat
    have hJ := lenJ "" (sortF fs)
    have z1 : ("" : Str).length = 0 := by decide
    have z2 : ("(" : Str).length = 1 := by decide
    have z3 : (")" : Str).length = 1 := by decide
    rw [hs2, hn2, z1] at hJ
    refine ⟨⟨"", rfl⟩, _, rfl, ?_⟩
    refine sortL_form hl hT (fun z m => ?_) fun H3 e3 p hp => ?_
    · have : z.length ≤ (fs.map (·.length)).sum := mem_sum (List.mem_map.mpr ⟨z, m, rfl⟩)
      rw [zL]
      omega
    · refine ⟨"", p, sortF fs, rfl, rfl, .inl (SqL.of upd_same), ?_, "(", _, rfl, rfl, ?_, _, ")", rfl, rfl, ?_, k _ (e3.alloc hp)⟩
      · rw [hs2, hn2, z1]; omega
      · rw [zL]; omega
      · rw [lenA, zL]; omega) (g_group_form T)
end
end K3

/-! [y for x in a for y in f(x)]: a comprehension of two walks that change nothing. -/
namespace LB
open PySem PySem.Spec PyProof.Rows L2 LamX LK
theorem lc2_rows {K : PySem.W.Frag} {a D : Addr} {xs : List V} {rows : List (List V)} {p q : Nat} {vs vs1 : List Nat} {σ : L2.St} {H1 : Hp} {te1 : TE} {Qd : Hp → Prop} (ha : ∀ acc, SqL K (upd H1 D (.lst acc)) a xs) (hlen : xs.length = rows.length) (hsz : rows.flatten.length ≤ sizeLine)
    (hw : ∀ x, wipe ((wipe σ vs).set p (some x)) vs = wipe σ vs) (hw1 : ∀ x y, wipe ((wipe ((wipe σ vs).set p (some x)) vs1).set q (some y)) vs1 = wipe ((wipe σ vs).set p (some x)) vs1)
    (hq : ∀ x y, ((wipe ((wipe σ vs).set p (some x)) vs1).set q (some y))[q]? = some (some y))
    (hte : ∀ (i : Nat) (x : V) (row acc : List V), xs[i]? = some x → rows[i]? = some row → ∀ R : V → Hp → Prop, (∀ l, (∀ acc', SqL K (upd H1 D (.lst acc')) l row) → R (.ref l) (upd H1 D (.lst acc))) → te1 ((wipe σ vs).set p (some x)) (upd H1 D (.lst acc)) R)
    (hd : Qd (upd H1 D (.lst rows.flatten))) :
    ∃ W : Nat → Nat → Hp → Prop, (∃ m, W 0 m (upd H1 D (.lst []))) ∧ ∀ i m H, W i m H →
      ((Itl K a).stop i H ∧ Qd H) ∨ ((Itl K a).go i H ∧ ∃ Nx : Hp → Prop, (∀ H', Nx H' → ∃ m', m' < m ∧ W (i + 1) m' H') ∧ ∀ x H', (Itl K a).yld i H x H' → gName p x (wipe σ vs) H' fun σ2 H2 => wipe σ2 vs = wipe σ vs ∧ tYes σ2 H2 fun b H3 =>
        if b = true then iList K te1 σ2 H3 fun J1 H4 => ∃ W1 : Nat → Nat → Hp → Prop, (∃ m, W1 0 m H4) ∧ ∀ j k H, W1 j k H →
          (J1.stop j H ∧ Nx H) ∨ (J1.go j H ∧ ∃ Nx1 : Hp → Prop, (∀ H', Nx1 H' → ∃ k', k' < k ∧ W1 (j + 1) k' H') ∧ ∀ x H', J1.yld j H x H' → gName q x (wipe σ2 vs1) H' fun σ3 H5 => wipe σ3 vs1 = wipe σ2 vs1 ∧ tYes σ3 H5 fun b H6 =>
            if b = true then tVar q σ3 H6 fun y H7 => ∃ acc, H7 D = some (.lst acc) ∧ acc.length < sizeLine ∧ Nx1 (upd H7 D (.lst (acc ++ [y]))) else Nx1 H6)
        else Nx H3) := by
  refine ⟨fun i m H => m = xs.length - i ∧ i ≤ xs.length ∧ H = upd H1 D (.lst (rows.take i).flatten), ⟨xs.length, by simp, Nat.zero_le _, rfl⟩, ?_⟩
  rintro i m H ⟨rfl, hi, rfl⟩
  by_cases hlt : i < xs.length
  · refine .inr ⟨walk_list.goes i _ hlt (ha _), fun H' => H' = upd H1 D (.lst (rows.take (i + 1)).flatten), fun H' h => ⟨xs.length - (i + 1), by omega, rfl, hlt, h⟩, fun x H' y => ?_⟩
    obtain ⟨rfl, hx⟩ := walk_list.yields i _ x H' hlt (ha _) y
    obtain ⟨row, hrow⟩ : ∃ row, rows[i]? = some row := ⟨_, List.getElem?_eq_getElem (by omega : i < rows.length)⟩
    have hfl : (rows.take (i + 1)).flatten = (rows.take i).flatten ++ row := by
      rw [take_snoc hrow, List.flatten_append]
      simp
    have hsz2 : ((rows.take i).flatten ++ row).length ≤ sizeLine := by
      rw [← hfl]
      refine Nat.le_trans ?_ hsz
      have e := congrArg (fun l => (List.flatten l).length) (List.take_append_drop (i + 1) rows)
      simp only [List.flatten_append, List.length_append] at e
      omega
    refine ⟨hw x, ?_⟩
    dsimp only [tYes]
    rw [if_pos rfl]
    refine hte i x row _ hx hrow _ fun l hl => ⟨l, rfl, ⟨row, hl _⟩, ?_⟩
    refine ⟨fun j k H => k = row.length - j ∧ j ≤ row.length ∧ H = upd H1 D (.lst ((rows.take i).flatten ++ row.take j)), ⟨row.length, by simp, Nat.zero_le _, by rw [List.take_zero, List.append_nil]⟩, ?_⟩
    rintro j k H ⟨rfl, hj, rfl⟩
    by_cases hjl : j < row.length
    · refine .inr ⟨walk_list.goes j _ hjl (hl _), fun H' => H' = upd H1 D (.lst ((rows.take i).flatten ++ row.take (j + 1))), fun H' h => ⟨row.length - (j + 1), by omega, rfl, hjl, h⟩, fun y H' hy => ?_⟩
      obtain ⟨rfl, hyy⟩ := walk_list.yields j _ y H' hjl (hl _) hy
      refine ⟨hw1 x y, ?_⟩
      dsimp only [tYes]
      rw [if_pos rfl]
      refine ⟨y, hq x y, (rows.take i).flatten ++ row.take j, upd_same, ?_, ?_⟩
      · rw [List.length_append] at hsz2 ⊢
        rw [List.length_take]
        omega
      · rw [upd_upd, take_snoc hyy, List.append_assoc]
    · have e : j = row.length := by omega
      subst e
      exact .inl ⟨walk_list.stops _ (hl _), by rw [List.take_length, ← hfl]⟩
  · have e : i = xs.length := by omega
    subst e
    refine .inl ⟨walk_list.stops _ (ha _), ?_⟩
    rw [hlen, List.take_length]
    exact hd
/-- a dict of some texts, all True -/
theorem dc_strs {K : PySem.W.Frag} {a D : Addr} {ws : List Str} {p : Nat} {vs : List Nat} {σ : L2.St} {H1 : Hp} {Qd : Hp → Prop} (ha : ∀ kvs, SqL K (upd H1 D (.dK kvs)) a (ws.map V.str)) (hsz : ws.length ≤ sizeLine)
    (hw : ∀ x, wipe ((wipe σ vs).set p (some x)) vs = wipe σ vs) (hq : ∀ x, ((wipe σ vs).set p (some x))[p]? = some (some x)) (hd : ∀ kvs, Qd (upd H1 D (.dK kvs))) :
    ∃ W : Nat → Nat → Hp → Prop, (∃ m, W 0 m (upd H1 D (.dK []))) ∧ ∀ i m H, W i m H →
      ((Itl K a).stop i H ∧ Qd H) ∨ ((Itl K a).go i H ∧ ∃ Nx : Hp → Prop, (∀ H', Nx H' → ∃ m', m' < m ∧ W (i + 1) m' H') ∧ ∀ x H', (Itl K a).yld i H x H' → gName p x (wipe σ vs) H' fun σ2 H2 => wipe σ2 vs = wipe σ vs ∧ tYes σ2 H2 fun b H3 =>
        if b = true then tVar p σ2 H3 fun y H4 => tC (.bl true) σ2 H4 fun z H5 => ∃ kvs k, y = kV k ∧ H5 D = some (.dK kvs) ∧ kvs.length < sizeLine ∧ Nx (upd H5 D (.dK (putK kvs k z))) else Nx H3) := by
  refine ⟨fun i m H => m = ws.length - i ∧ i ≤ ws.length ∧ ∃ kvs, H = upd H1 D (.dK kvs) ∧ kvs.length ≤ i, ⟨ws.length, by simp, Nat.zero_le _, [], rfl, Nat.le_refl _⟩, ?_⟩
  rintro i m H ⟨rfl, hi, kvs, rfl, hk⟩
  have hlm : (ws.map V.str).length = ws.length := List.length_map _
  by_cases hlt : i < ws.length
  · refine .inr ⟨walk_list.goes i _ (by omega) (ha _), fun H' => ∃ kvs, H' = upd H1 D (.dK kvs) ∧ kvs.length ≤ i + 1, fun H' h => ⟨ws.length - (i + 1), by omega, rfl, hlt, h⟩, fun x H' y => ?_⟩
    obtain ⟨rfl, hx⟩ := walk_list.yields i _ x H' (by omega) (ha _) y
    obtain ⟨z, hz, rfl⟩ : ∃ z, ws[i]? = some z ∧ x = .str z := by
      rw [List.getElem?_map] at hx
      cases ez : ws[i]? with
      | none => rw [ez] at hx; cases hx
      | some z => rw [ez] at hx; exact ⟨z, rfl, by injection hx with hx; exact hx.symm⟩
    refine ⟨hw _, ?_⟩
    dsimp only [tYes]
    rw [if_pos rfl]
    refine ⟨_, hq _, kvs, .inr z, rfl, upd_same, by omega, _, by rw [upd_upd], ?_⟩
    have := length_putK kvs (.inr z) (V.bl true)
    omega
  · have e : i = ws.length := by omega
    subst e
    refine .inl ⟨?_, hd kvs⟩
    have := (walk_list (K := K) (a := a) (xs := ws.map V.str)).stops _ (ha kvs)
    rw [hlm] at this
    exact this
end LB

namespace LB
open PySem PySem.Spec PyProof.Rows L2 LamX LK
/-- an object that was not there needs not be named -/
theorem Stp.drop {T : TBs} {H H1 : Hp} {p : Addr} (x : Stp T [p] H H1) (n : H p = none) : Stp T [] H H1 := ⟨fun a o e m _ => x.ex a o e m (fun z => by
  rw [List.mem_singleton.mp z, n] at e
  cases e), x.tabs⟩
end LB
namespace K3
open PySem PySem.Spec PyProof.Rows L2 LamX LK LB
abbrev CN (K : PySem.W.Frag) : Addr := He.ga K "Node"
abbrev CS (K : PySem.W.Frag) : Addr := He.ga K "Shape"
/-- a Node that stands for t; none of its objects is of B -/
structure ND (K : PySem.W.Frag) (H : Hp) (B : List Addr) (v : V) (t : Tr) : Prop where
  ex : ∃ (a dx : Addr) (fs : List (Str × V)) (u : Addr), v = .ref a ∧ H a = some (.ins (CN K) dx fs) ∧ a ∉ B ∧ u ∉ B ∧ fs.lookup ("word" : Str) = some (.str t.text) ∧ fs.lookup ("pattern" : Str) = some (.str t.form) ∧ fs.lookup ("tall" : Str) = some (.int (t.hgt : Int)) ∧
    fs.lookup ("under" : Str) = some (.ref u) ∧ H u = some (.lst (t.under.map V.str))
def NDs (K : PySem.W.Frag) (H : Hp) (B : List Addr) (bs : List (V × Tr)) : Prop := ∀ b ∈ bs, ND K H B b.1 b.2
section
variable {K : PySem.W.Frag} {T : TBs} {H H' : Hp} {B : List Addr} {v : V} {t : Tr} {bs : List (V × Tr)}
theorem ND.keep (n : ND K H B v t) (e : Stp T B H H') : ND K H' B v t := by
  obtain ⟨a, dx, fs, u, h1, h2, h3, h4, h5, h6, h7, h8, h9⟩ := n.ex
  exact ⟨a, dx, fs, u, h1, e.get h2 trivial h3, h3, h4, h5, h6, h7, h8, e.get h9 trivial h4⟩
theorem ND.grow {x : Addr} (n : ND K H B v t) (h : H x = none) : ND K H (x :: B) v t := by
  obtain ⟨a, dx, fs, u, h1, h2, h3, h4, h5, h6, h7, h8, h9⟩ := n.ex
  refine ⟨a, dx, fs, u, h1, h2, ?_, ?_, h5, h6, h7, h8, h9⟩
  · rw [List.mem_cons]
    rintro (rfl | q)
    · rw [h] at h2
      cases h2
    · exact h3 q
  · rw [List.mem_cons]
    rintro (rfl | q)
    · rw [h] at h9
      cases h9
    · exact h4 q
theorem ND.less {B' : List Addr} (n : ND K H B v t) (h : ∀ x ∈ B', x ∈ B) : ND K H B' v t := by
  obtain ⟨a, dx, fs, u, h1, h2, h3, h4, h5⟩ := n.ex
  exact ⟨a, dx, fs, u, h1, h2, fun q => h3 (h a q), fun q => h4 (h u q), h5⟩
theorem NDs.keep (n : NDs K H B bs) (e : Stp T B H H') : NDs K H' B bs := fun b m => (n b m).keep e
theorem NDs.grow {x : Addr} (n : NDs K H B bs) (h : H x = none) : NDs K H (x :: B) bs := fun b m => (n b m).grow h
end
section
variable {P : Program} {w : World} {K : PySem.W.Frag} {mg : Str → Option Value} {base : Heap}
/-- Node.__init__ on a fresh object: a lane, or a group of two or more -/
def spNode (K : PySem.W.Frag) (Tb : TBs) : Sp := fun vs H Q _ => ∃ (x dx l : Addr) (B : List Addr) (wd : Str) (bs : List (V × Tr)) (t : Tr), vs = [.ref x, .str wd, .ref l] ∧ H x = some (.ins (CN K) dx []) ∧ H l = some (.lst (bs.map (·.1))) ∧ NDs K H (x :: B) bs ∧
  (∀ b ∈ B, ∃ o, H b = some o ∧ Own o) ∧ x ∉ B ∧ Tabs Tb H ∧ ((∃ nm fr, bs = [] ∧ t = .leaf nm fr ∧ wd = t.text ∧ isNm nm = true) ∨ (wd = "" ∧ t = group (bs.map (·.2)) ∧ 2 ≤ bs.length ∧ goodL (bs.map (·.2)) ∧ lvL (bs.map (·.2)) < 64)) ∧
  ∀ H', Stp Tb [x] H H' → ND K H' B (.ref x) t → Q .non H'
def tPart0 (K : PySem.W.Frag) : TE := tOp (rIxL K) (tFld K (tVar 0) "under") (tC (.int 0))
theorem set_look {f g : Str} {v u : V} {fs : List (Str × V)} (h : fs.lookup g = some u) (ne : g ≠ f) : (putF f v fs).lookup g = some u := by
  rw [lookup_putF, if_neg ne]
  exact h
theorem set_self {f : Str} {v : V} {fs : List (Str × V)} : (putF f v fs).lookup f = some v := by rw [lookup_putF, if_pos rfl]
theorem set_len {f : Str} {v : V} {fs : List (Str × V)} {n : Nat} (h : fs.length ≤ n) : (putF f v fs).length ≤ n + 1 := Nat.le_trans (length_putF f v fs) (by omega)
theorem underL_flat : ∀ ts : List Tr, underL ts = (ts.map Tr.under).flatten
  | [] => rfl
  | t :: ts => by rw [underL, underL_flat ts]; rfl
theorem cal_node (T : Tx K mg base) : Mak P w K mg base 11 "Node" (CN K) (spNode K (TB K)) :=
  mak_mk (fn_Node_init T (k := 10) (fun vs H Q E ⟨x, dx, l, B, wd, bs, t, e, _⟩ => by rw [e]; rfl) fun A outer s H vs Q E hr h => by
    obtain ⟨x, dx, l, B, wd, bs, t, rfl, hx, hl, hN, hB, hxB, hT, hc, k⟩ := h
    have c_group_form : Cal P w K mg base 9 "group_form" (spGF (TB K)) := cal_gf T
    have c_bare_name : Cal P w K mg base 1 "bare_name" spBare := cal_bare T
    refine ⟨_, (pss_cons (ps_fld (pv 0) (pe_sortedLam (T := TB K) (a0 := "part") (Nl := ["part"]) (k := 5) (tb := tPart0 K) (by rfl) (n_sorted T) (pa_cons (pv 2) pa_nil) (T.tb _ (List.mem_of_getElem? (i := 3) rfl)) rfl (lamT_mem (i := 3) rfl) (lamT_one T.nd (i := 3) rfl) (hr.mono (by decide))
      ⟨rfl, rfl, rfl, by decide +kernel, rfl, by decide +kernel, by decide +kernel⟩
      (fun A' outer' s' H' f' c' hr' => pe_ix (r := rIxL K) ix_list (pe_fld (pv 0) rfl) pe_int (fun _ _ => rfl))) rfl)
  (pss_cons (ps_fld (pv 0) (pe_m1 PySem.F.slot_str_endswith PySem.F.type_str_endswith mt_endswith (pv 1) pe_str) rfl)
  (pss_cons (ps_if (pt_truth (pv 2) (by intro _; rfl)) (pss_cons (ps_fld (pv 0) (pe_callB cr_sortedS (by rfl) (n_sorted T) (by decide +kernel) (pa_cons (pe_lc2 (own := [("part", 3), ("name", 4)]) (g := gName 3) (tt := tYes) (vs1 := [4]) (tt1 := tYes) rfl sc_Node_init.nd (pi_list (pv 2)) (blkOk_by (own := [("part", 3), ("name", 4)]) (N := N_Node_init) (sc := defScope s_Node_init) (by decide +kernel)) (by decide) (fun _ _ _ _ _ => (pg_name (i := 3) sc_Node_init.nd rfl (Or.inl rfl))) (fun _ _ _ _ _ => pts_nil) (fun _ _ _ _ _ => (pi_listK (K := K) (tl := tFld K (tVar 3) "under") rfl (pe_fld (pv 3) rfl))) (fun _ _ _ _ _ => (pg_name (i := 4) sc_Node_init.nd rfl (Or.inl rfl))) (fun _ _ _ _ _ => pts_nil) (fun _ _ _ _ _ => (pv 4))) pa_nil)) rfl)
  (pss_cons (ps_fld (pv 0) (pe_op op_add_str (pe_op op_add_str pe_str (pe_join pe_str (pe_lc (own := [("part", 3)]) (g := gName 3) (tt := tYes) (te := tFld K (tVar 3) "word") rfl sc_Node_init.nd (pi_list (pe_fld (pv 0) rfl)) (blkOk_by (own := [("part", 3)]) (N := N_Node_init) (sc := defScope s_Node_init) (by decide +kernel)) (fun _ _ _ _ _ => (pg_name (i := 3) sc_Node_init.nd rfl (Or.inl rfl))) (fun _ _ _ _ _ => pts_nil) (fun _ _ _ _ _ => (pe_fld (pv 3) rfl))))) pe_str) rfl)
  (pss_cons (ps_fld (pv 0) (pe_c c_group_form hr (by omega) rfl (pa_cons (pe_lc (own := [("part", 3)]) (g := gName 3) (tt := tYes) (te := tFld K (tVar 3) "pattern") rfl sc_Node_init.nd (pi_list (pv 2)) (blkOk_by (own := [("part", 3)]) (N := N_Node_init) (sc := defScope s_Node_init) (by decide +kernel)) (fun _ _ _ _ _ => (pg_name (i := 3) sc_Node_init.nd rfl (Or.inl rfl))) (fun _ _ _ _ _ => pts_nil) (fun _ _ _ _ _ => (pe_fld (pv 3) rfl))) pa_nil)) rfl)
  (pss_one (ps_fld (pv 0) (pe_op op_add pe_int (pe_callB (cr_max rfl) (by rfl) (n_max T) (by decide +kernel) (pa_cons (pe_lc (own := [("part", 3)]) (g := gName 3) (tt := tYes) (te := tFld K (tVar 3) "tall") rfl sc_Node_init.nd (pi_list (pv 2)) (blkOk_by (own := [("part", 3)]) (N := N_Node_init) (sc := defScope s_Node_init) (by decide +kernel)) (fun _ _ _ _ _ => (pg_name (i := 3) sc_Node_init.nd rfl (Or.inl rfl))) (fun _ _ _ _ _ => pts_nil) (fun _ _ _ _ _ => (pe_fld (pv 3) rfl))) pa_nil))) rfl))))) (pss_cons (ps_fld (pv 0) (pe_lst (pa_cons (pe_c c_bare_name hr (by omega) rfl (pa_cons (pv 1) pa_nil)) pa_nil)) rfl)
  (pss_cons (ps_fld (pv 0) (pv 1) rfl)
  (pss_cons (ps_fld (pv 0) (pe_ifExp (pt_val (pe_fld (pv 0) rfl)) pe_str pe_str) rfl)
  (pss_one (ps_fld (pv 0) pe_int rfl))))))
  (pss_one (ps_fld (pv 0) (pe_dc (own := [("name", 4)]) (g := gName 4) (tt := tYes) rfl sc_Node_init.nd (pi_list (pe_fld (pv 0) rfl)) (blkOk_by (own := [("name", 4)]) (N := N_Node_init) (sc := defScope s_Node_init) (by decide +kernel)) (fun _ _ _ _ _ => (pg_name (i := 4) sc_Node_init.nd rfl (Or.inl rfl))) (fun _ _ _ _ _ => pts_nil) (fun _ _ _ _ _ => (pv 4)) (fun _ _ _ _ _ => pe_bl)) rfl))))), ?_⟩
    have hgb : ∀ b ∈ bs, b.2.good := by
      rcases hc with ⟨nm, fr, rfl, _⟩ | ⟨_, _, _, hg, _⟩
      · exact fun b m => by cases m
      · exact fun b m => goodL_mem.mp hg b.2 (List.mem_map.mpr ⟨b, m, rfl⟩)
    have hlx : l ≠ x := fun e => by
      rw [e, hx] at hl
      cases hl
    refine ⟨_, rfl, sortL_str (f := fun b : V × Tr => b.2.key) (val := fun b : V × Tr => b.1) (SqL.of hl) hT ?_ ?_⟩
    · intro b m H2 H3 e2 e3
      obtain ⟨a, dxa, fsa, u, ev, ha, _, _, _, _, _, hun, hu⟩ := ((hN b m).keep (e2.trans e3).wide).ex
      exact ⟨_, rfl, a, CN K, dxa, fsa, .ref u, ev, ha, cl_Node T, na_Node_under T, hun, u, _, 0, .str b.2.key, rfl, rfl, SqL.of hu, key_at (hgb b m), .inl rfl, e3⟩
    intro H3 e3 p1 hp1
    obtain ⟨S, eS⟩ : ∃ S, S = bs.mergeSort (fun a b => leS a.2.key b.2.key) := ⟨_, rfl⟩
    rw [← eS]
    have e4 : Stp (TB K) [] H (upd H3 p1 (.lst (S.map fun b => b.1))) := e3.alloc hp1
    have x4 := e4.get0 hx trivial
    have l4 := e4.get0 hl trivial
    have p4 : (upd H3 p1 (.lst (S.map fun b => b.1))) p1 = some (.lst (S.map fun b => b.1)) := upd_same
    have hpx : p1 ≠ x := ne_of p4 x4 (by intro z; cases z)
    generalize upd H3 p1 (.lst (S.map fun b => b.1)) = H4 at e4 x4 l4 p4 ⊢
    have sx : ∀ (o : HO) (H' : Hp) (z : HO), H' x = some z → Own z → Stp (TB K) [x] H' (upd H' x o) := fun o H' z e ow => .set e ow (by simp)
    obtain ⟨fs4, efs4⟩ : ∃ fs4 : List (Str × V), fs4 = [] := ⟨_, rfl⟩
    rw [← efs4] at x4
    have n4 : fs4.length ≤ 0 := by rw [efs4]; exact Nat.le_refl _
    refine ⟨_, rfl, x, CN K, dx, fs4, rfl, x4, cl_Node T, na_Node_inner T, by omega, ?_⟩
    have e4' := e4
    clear e4
    have e4 := e4'.wide (B := [x])
    have e5 : Stp (TB K) [x] H (upd H4 x (.ins (CN K) dx (putF "inner" (.ref p1) fs4))) := e4.trans (sx _ _ _ x4 trivial)
    have x5 : (upd H4 x (.ins (CN K) dx (putF "inner" (.ref p1) fs4))) x = some (.ins (CN K) dx (putF "inner" (.ref p1) fs4)) := upd_same
    have l5 : (upd H4 x (.ins (CN K) dx (putF "inner" (.ref p1) fs4))) l = some (.lst (bs.map (·.1))) := by rw [upd_ne hlx]; exact l4
    have p5 : (upd H4 x (.ins (CN K) dx (putF "inner" (.ref p1) fs4))) p1 = some (.lst (S.map fun b => b.1)) := by rw [upd_ne hpx]; exact p4
    have n5 : (putF "inner" (.ref p1) fs4).length ≤ 1 := set_len n4
    have k5_inner : (putF "inner" (.ref p1) fs4).lookup ("inner" : Str) = some (.ref p1) := set_self
    generalize (upd H4 x (.ins (CN K) dx (putF "inner" (.ref p1) fs4))) = H5 at e5 x5 l5 p5 ⊢
    generalize putF "inner" (.ref p1) fs4 = fs5 at x5 n5 k5_inner
    refine ⟨_, rfl, ⟨_, rfl⟩, _, _, rfl, rfl, _, rfl, x, CN K, dx, _, rfl, x5, cl_Node T, na_Node_line T, by omega, ?_⟩
    generalize eln : Txt.endswith wd "|" = ln
    have e6 : Stp (TB K) [x] H (upd H5 x (.ins (CN K) dx (putF "line" (.bl ln) fs5))) := e5.trans (sx _ _ _ x5 trivial)
    have x6 : (upd H5 x (.ins (CN K) dx (putF "line" (.bl ln) fs5))) x = some (.ins (CN K) dx (putF "line" (.bl ln) fs5)) := upd_same
    have l6 : (upd H5 x (.ins (CN K) dx (putF "line" (.bl ln) fs5))) l = some (.lst (bs.map (·.1))) := by rw [upd_ne hlx]; exact l5
    have p6 : (upd H5 x (.ins (CN K) dx (putF "line" (.bl ln) fs5))) p1 = some (.lst (S.map fun b => b.1)) := by rw [upd_ne hpx]; exact p5
    have n6 : (putF "line" (.bl ln) fs5).length ≤ 2 := set_len n5
    have k6_inner : (putF "line" (.bl ln) fs5).lookup ("inner" : Str) = some (.ref p1) := set_look k5_inner (by decide +kernel)
    have k6_line : (putF "line" (.bl ln) fs5).lookup ("line" : Str) = some (.bl ln) := set_self
    generalize (upd H5 x (.ins (CN K) dx (putF "line" (.bl ln) fs5))) = H6 at e6 x6 l6 p6 ⊢
    generalize putF "line" (.bl ln) fs5 = fs6 at x6 n6 k6_inner k6_line
    refine ⟨_, rfl, _, .inl ⟨_, SqL.of l6, rfl⟩, ?_⟩
    rcases hc with ⟨nm, fr, rfl, rfl, rfl, hnm⟩ | ⟨rfl, rfl, h2, hg, hlv⟩
    · refine iteF ?_
      refine ⟨_, rfl, nm, fr, rfl, hnm, (by show 1 ≤ sizeLine; decide), fun u hu => ?_⟩
      have huB : u ∉ B := fun m => by
        obtain ⟨o, ho, ow⟩ := hB u m
        have hux : u ∉ [x] := fun q => hxB (by rw [← List.mem_singleton.mp q]; exact m)
        have := e6.get ho ow hux
        rw [hu] at this
        cases this
      have e7 : Stp (TB K) [x] H (upd H6 u (.lst [.str nm])) := e6.alloc hu
      have x7 : (upd H6 u (.lst [.str nm])) x = some (.ins (CN K) dx fs6) := by rw [upd_ne (ne_of_none x6 hu)]; exact x6
      have u7 : (upd H6 u (.lst [.str nm])) u = some (.lst [.str nm]) := upd_same
      have hux : u ≠ x := ne_of u7 x7 (by intro z; cases z)
      generalize upd H6 u (.lst [.str nm]) = H7 at e7 x7 u7 ⊢
      refine ⟨_, rfl, x, CN K, dx, _, rfl, x7, cl_Node T, na_Node_under T, by omega, ?_⟩
      have n7 := n6
      have k7_inner := k6_inner
      have k7_line := k6_line
      generalize fs6 = fs7 at x7 n7 k7_inner k7_line
      have e8 : Stp (TB K) [x] H (upd H7 x (.ins (CN K) dx (putF "under" (.ref u) fs7))) := e7.trans (sx _ _ _ x7 trivial)
      have x8 : (upd H7 x (.ins (CN K) dx (putF "under" (.ref u) fs7))) x = some (.ins (CN K) dx (putF "under" (.ref u) fs7)) := upd_same
      have u8 : (upd H7 x (.ins (CN K) dx (putF "under" (.ref u) fs7))) u = some (.lst [.str nm]) := by rw [upd_ne hux]; exact u7
      have n8 : (putF "under" (.ref u) fs7).length ≤ 3 := set_len n7
      have k8_inner : (putF "under" (.ref u) fs7).lookup ("inner" : Str) = some (.ref p1) := set_look k7_inner (by decide +kernel)
      have k8_line : (putF "under" (.ref u) fs7).lookup ("line" : Str) = some (.bl ln) := set_look k7_line (by decide +kernel)
      have k8_under : (putF "under" (.ref u) fs7).lookup ("under" : Str) = some (.ref u) := set_self
      generalize (upd H7 x (.ins (CN K) dx (putF "under" (.ref u) fs7))) = H8 at e8 x8 u8 ⊢
      generalize putF "under" (.ref u) fs7 = fs8 at x8 n8 k8_inner k8_line k8_under
      refine ⟨_, rfl, _, rfl, x, CN K, dx, _, rfl, x8, cl_Node T, na_Node_word T, by omega, ?_⟩
      have e9 : Stp (TB K) [x] H (upd H8 x (.ins (CN K) dx (putF "word" (.str (Tr.leaf nm fr).text) fs8))) := e8.trans (sx _ _ _ x8 trivial)
      have x9 : (upd H8 x (.ins (CN K) dx (putF "word" (.str (Tr.leaf nm fr).text) fs8))) x = some (.ins (CN K) dx (putF "word" (.str (Tr.leaf nm fr).text) fs8)) := upd_same
      have u9 : (upd H8 x (.ins (CN K) dx (putF "word" (.str (Tr.leaf nm fr).text) fs8))) u = some (.lst [.str nm]) := by rw [upd_ne hux]; exact u8
      have n9 : (putF "word" (.str (Tr.leaf nm fr).text) fs8).length ≤ 4 := set_len n8
      have k9_inner : (putF "word" (.str (Tr.leaf nm fr).text) fs8).lookup ("inner" : Str) = some (.ref p1) := set_look k8_inner (by decide +kernel)
      have k9_line : (putF "word" (.str (Tr.leaf nm fr).text) fs8).lookup ("line" : Str) = some (.bl ln) := set_look k8_line (by decide +kernel)
      have k9_under : (putF "word" (.str (Tr.leaf nm fr).text) fs8).lookup ("under" : Str) = some (.ref u) := set_look k8_under (by decide +kernel)
      have k9_word : (putF "word" (.str (Tr.leaf nm fr).text) fs8).lookup ("word" : Str) = some (.str (Tr.leaf nm fr).text) := set_self
      generalize (upd H8 x (.ins (CN K) dx (putF "word" (.str (Tr.leaf nm fr).text) fs8))) = H9 at e9 x9 u9 ⊢
      generalize putF "word" (.str (Tr.leaf nm fr).text) fs8 = fs9 at x9 n9 k9_inner k9_line k9_under k9_word
      have hln : ln = !fr := by rw [← eln]; exact ends_leaf hnm
      have hpat : (if ln = true then "|" else "o" : Str) = (Tr.leaf nm fr).form := by rw [hln]; cases fr <;> rfl
      refine ⟨_, rfl, x, CN K, dx, _, .bl ln, rfl, x9, cl_Node T, na_Node_line T, k9_line, _, rfl, ?_⟩
      clear eln hln
      have n9' : fs9.length < 1000 := by omega
      cases ln with
      | true =>
        refine iteT ?_
        refine ⟨_, rfl, x, CN K, dx, _, rfl, x9, cl_Node T, na_Node_pattern T, n9', ?_⟩
        rw [if_pos rfl] at hpat
        rw [hpat]
        have e10 : Stp (TB K) [x] H (upd H9 x (.ins (CN K) dx (putF "pattern" (.str (Tr.leaf nm fr).form) fs9))) := e9.trans (sx _ _ _ x9 trivial)
        have x10 : (upd H9 x (.ins (CN K) dx (putF "pattern" (.str (Tr.leaf nm fr).form) fs9))) x = some (.ins (CN K) dx (putF "pattern" (.str (Tr.leaf nm fr).form) fs9)) := upd_same
        have u10 : (upd H9 x (.ins (CN K) dx (putF "pattern" (.str (Tr.leaf nm fr).form) fs9))) u = some (.lst [.str nm]) := by rw [upd_ne hux]; exact u9
        have n10 : (putF "pattern" (.str (Tr.leaf nm fr).form) fs9).length ≤ 5 := set_len n9
        have k10_under : (putF "pattern" (.str (Tr.leaf nm fr).form) fs9).lookup ("under" : Str) = some (.ref u) := set_look k9_under (by decide +kernel)
        have k10_word : (putF "pattern" (.str (Tr.leaf nm fr).form) fs9).lookup ("word" : Str) = some (.str (Tr.leaf nm fr).text) := set_look k9_word (by decide +kernel)
        have k10_pattern : (putF "pattern" (.str (Tr.leaf nm fr).form) fs9).lookup ("pattern" : Str) = some (.str (Tr.leaf nm fr).form) := set_self
        generalize (upd H9 x (.ins (CN K) dx (putF "pattern" (.str (Tr.leaf nm fr).form) fs9))) = H10 at e10 x10 u10 ⊢
        generalize putF "pattern" (.str (Tr.leaf nm fr).form) fs9 = fs10 at x10 n10 k10_under k10_word k10_pattern
        refine ⟨_, rfl, x, CN K, dx, _, rfl, x10, cl_Node T, na_Node_tall T, by omega, ?_⟩
        have e11 : Stp (TB K) [x] H (upd H10 x (.ins (CN K) dx (putF "tall" (.int 0) fs10))) := e10.trans (sx _ _ _ x10 trivial)
        have x11 : (upd H10 x (.ins (CN K) dx (putF "tall" (.int 0) fs10))) x = some (.ins (CN K) dx (putF "tall" (.int 0) fs10)) := upd_same
        have u11 : (upd H10 x (.ins (CN K) dx (putF "tall" (.int 0) fs10))) u = some (.lst [.str nm]) := by rw [upd_ne hux]; exact u10
        have n11 : (putF "tall" (.int 0) fs10).length ≤ 6 := set_len n10
        have k11_under : (putF "tall" (.int 0) fs10).lookup ("under" : Str) = some (.ref u) := set_look k10_under (by decide +kernel)
        have k11_word : (putF "tall" (.int 0) fs10).lookup ("word" : Str) = some (.str (Tr.leaf nm fr).text) := set_look k10_word (by decide +kernel)
        have k11_pattern : (putF "tall" (.int 0) fs10).lookup ("pattern" : Str) = some (.str (Tr.leaf nm fr).form) := set_look k10_pattern (by decide +kernel)
        have k11_tall : (putF "tall" (.int 0) fs10).lookup ("tall" : Str) = some (.int 0) := set_self
        generalize (upd H10 x (.ins (CN K) dx (putF "tall" (.int 0) fs10))) = H11 at e11 x11 u11 ⊢
        generalize putF "tall" (.int 0) fs10 = fs11 at x11 n11 k11_under k11_word k11_pattern k11_tall
        refine ⟨_, rfl, x, CN K, dx, _, .ref u, rfl, x11, cl_Node T, na_Node_under T, k11_under, u, rfl, ⟨_, SqL.of u11⟩, fun D hD => dc_strs (ws := [nm]) (fun kvs => SqL.of (by rw [upd_ne (ne_of_none u11 hD)]; exact u11)) (by show 1 ≤ sizeLine; decide) (fun _ => rfl) (fun _ => rfl) fun kvs => ?_⟩
        have x12 : (upd H11 D (.dK kvs)) x = some (.ins (CN K) dx fs11) := by rw [upd_ne (ne_of_none x11 hD)]; exact x11
        have u12 : (upd H11 D (.dK kvs)) u = some (.lst [.str nm]) := by rw [upd_ne (ne_of_none u11 hD)]; exact u11
        have e12 : Stp (TB K) [x] H (upd H11 D (.dK kvs)) := e11.alloc hD
        generalize upd H11 D (.dK kvs) = H12 at e12 x12 u12 ⊢
        refine ⟨_, rfl, x, CN K, dx, _, rfl, x12, cl_Node T, na_Node_has T, by omega, ?_⟩
        have n12 := n11
        have k12_under := k11_under
        have k12_word := k11_word
        have k12_pattern := k11_pattern
        have k12_tall := k11_tall
        generalize fs11 = fs12 at x12 n12 k12_under k12_word k12_pattern k12_tall
        have e13 : Stp (TB K) [x] H (upd H12 x (.ins (CN K) dx (putF "has" (.ref D) fs12))) := e12.trans (sx _ _ _ x12 trivial)
        have x13 : (upd H12 x (.ins (CN K) dx (putF "has" (.ref D) fs12))) x = some (.ins (CN K) dx (putF "has" (.ref D) fs12)) := upd_same
        have u13 : (upd H12 x (.ins (CN K) dx (putF "has" (.ref D) fs12))) u = some (.lst [.str nm]) := by rw [upd_ne hux]; exact u12
        have n13 : (putF "has" (.ref D) fs12).length ≤ 7 := set_len n12
        have k13_under : (putF "has" (.ref D) fs12).lookup ("under" : Str) = some (.ref u) := set_look k12_under (by decide +kernel)
        have k13_word : (putF "has" (.ref D) fs12).lookup ("word" : Str) = some (.str (Tr.leaf nm fr).text) := set_look k12_word (by decide +kernel)
        have k13_pattern : (putF "has" (.ref D) fs12).lookup ("pattern" : Str) = some (.str (Tr.leaf nm fr).form) := set_look k12_pattern (by decide +kernel)
        have k13_tall : (putF "has" (.ref D) fs12).lookup ("tall" : Str) = some (.int 0) := set_look k12_tall (by decide +kernel)
        have k13_has : (putF "has" (.ref D) fs12).lookup ("has" : Str) = some (.ref D) := set_self
        generalize (upd H12 x (.ins (CN K) dx (putF "has" (.ref D) fs12))) = H13 at e13 x13 u13 ⊢
        generalize putF "has" (.ref D) fs12 = fs13 at x13 n13 k13_under k13_word k13_pattern k13_tall k13_has
        exact k H13 e13 ⟨x, dx, _, u, rfl, x13, hxB, huB, k13_word, k13_pattern, k13_tall, k13_under, u13⟩
      | false =>
        refine iteF ?_
        refine ⟨_, rfl, x, CN K, dx, _, rfl, x9, cl_Node T, na_Node_pattern T, n9', ?_⟩
        rw [if_neg Bool.false_ne_true] at hpat
        rw [hpat]
        have e10 : Stp (TB K) [x] H (upd H9 x (.ins (CN K) dx (putF "pattern" (.str (Tr.leaf nm fr).form) fs9))) := e9.trans (sx _ _ _ x9 trivial)
        have x10 : (upd H9 x (.ins (CN K) dx (putF "pattern" (.str (Tr.leaf nm fr).form) fs9))) x = some (.ins (CN K) dx (putF "pattern" (.str (Tr.leaf nm fr).form) fs9)) := upd_same
        have u10 : (upd H9 x (.ins (CN K) dx (putF "pattern" (.str (Tr.leaf nm fr).form) fs9))) u = some (.lst [.str nm]) := by rw [upd_ne hux]; exact u9
        have n10 : (putF "pattern" (.str (Tr.leaf nm fr).form) fs9).length ≤ 5 := set_len n9
        have k10_under : (putF "pattern" (.str (Tr.leaf nm fr).form) fs9).lookup ("under" : Str) = some (.ref u) := set_look k9_under (by decide +kernel)
        have k10_word : (putF "pattern" (.str (Tr.leaf nm fr).form) fs9).lookup ("word" : Str) = some (.str (Tr.leaf nm fr).text) := set_look k9_word (by decide +kernel)
        have k10_pattern : (putF "pattern" (.str (Tr.leaf nm fr).form) fs9).lookup ("pattern" : Str) = some (.str (Tr.leaf nm fr).form) := set_self
        generalize (upd H9 x (.ins (CN K) dx (putF "pattern" (.str (Tr.leaf nm fr).form) fs9))) = H10 at e10 x10 u10 ⊢
        generalize putF "pattern" (.str (Tr.leaf nm fr).form) fs9 = fs10 at x10 n10 k10_under k10_word k10_pattern
        refine ⟨_, rfl, x, CN K, dx, _, rfl, x10, cl_Node T, na_Node_tall T, by omega, ?_⟩
        have e11 : Stp (TB K) [x] H (upd H10 x (.ins (CN K) dx (putF "tall" (.int 0) fs10))) := e10.trans (sx _ _ _ x10 trivial)
        have x11 : (upd H10 x (.ins (CN K) dx (putF "tall" (.int 0) fs10))) x = some (.ins (CN K) dx (putF "tall" (.int 0) fs10)) := upd_same
        have u11 : (upd H10 x (.ins (CN K) dx (putF "tall" (.int 0) fs10))) u = some (.lst [.str nm]) := by rw [upd_ne hux]; exact u10
        have n11 : (putF "tall" (.int 0) fs10).length ≤ 6 := set_len n10
        have k11_under : (putF "tall" (.int 0) fs10).lookup ("under" : Str) = some (.ref u) := set_look k10_under (by decide +kernel)
        have k11_word : (putF "tall" (.int 0) fs10).lookup ("word" : Str) = some (.str (Tr.leaf nm fr).text) := set_look k10_word (by decide +kernel)
        have k11_pattern : (putF "tall" (.int 0) fs10).lookup ("pattern" : Str) = some (.str (Tr.leaf nm fr).form) := set_look k10_pattern (by decide +kernel)
        have k11_tall : (putF "tall" (.int 0) fs10).lookup ("tall" : Str) = some (.int 0) := set_self
        generalize (upd H10 x (.ins (CN K) dx (putF "tall" (.int 0) fs10))) = H11 at e11 x11 u11 ⊢
        generalize putF "tall" (.int 0) fs10 = fs11 at x11 n11 k11_under k11_word k11_pattern k11_tall
        refine ⟨_, rfl, x, CN K, dx, _, .ref u, rfl, x11, cl_Node T, na_Node_under T, k11_under, u, rfl, ⟨_, SqL.of u11⟩, fun D hD => dc_strs (ws := [nm]) (fun kvs => SqL.of (by rw [upd_ne (ne_of_none u11 hD)]; exact u11)) (by show 1 ≤ sizeLine; decide) (fun _ => rfl) (fun _ => rfl) fun kvs => ?_⟩
        have x12 : (upd H11 D (.dK kvs)) x = some (.ins (CN K) dx fs11) := by rw [upd_ne (ne_of_none x11 hD)]; exact x11
        have u12 : (upd H11 D (.dK kvs)) u = some (.lst [.str nm]) := by rw [upd_ne (ne_of_none u11 hD)]; exact u11
        have e12 : Stp (TB K) [x] H (upd H11 D (.dK kvs)) := e11.alloc hD
        generalize upd H11 D (.dK kvs) = H12 at e12 x12 u12 ⊢
        refine ⟨_, rfl, x, CN K, dx, _, rfl, x12, cl_Node T, na_Node_has T, by omega, ?_⟩
        have n12 := n11
        have k12_under := k11_under
        have k12_word := k11_word
        have k12_pattern := k11_pattern
        have k12_tall := k11_tall
        generalize fs11 = fs12 at x12 n12 k12_under k12_word k12_pattern k12_tall
        have e13 : Stp (TB K) [x] H (upd H12 x (.ins (CN K) dx (putF "has" (.ref D) fs12))) := e12.trans (sx _ _ _ x12 trivial)
        have x13 : (upd H12 x (.ins (CN K) dx (putF "has" (.ref D) fs12))) x = some (.ins (CN K) dx (putF "has" (.ref D) fs12)) := upd_same
        have u13 : (upd H12 x (.ins (CN K) dx (putF "has" (.ref D) fs12))) u = some (.lst [.str nm]) := by rw [upd_ne hux]; exact u12
        have n13 : (putF "has" (.ref D) fs12).length ≤ 7 := set_len n12
        have k13_under : (putF "has" (.ref D) fs12).lookup ("under" : Str) = some (.ref u) := set_look k12_under (by decide +kernel)
        have k13_word : (putF "has" (.ref D) fs12).lookup ("word" : Str) = some (.str (Tr.leaf nm fr).text) := set_look k12_word (by decide +kernel)
        have k13_pattern : (putF "has" (.ref D) fs12).lookup ("pattern" : Str) = some (.str (Tr.leaf nm fr).form) := set_look k12_pattern (by decide +kernel)
        have k13_tall : (putF "has" (.ref D) fs12).lookup ("tall" : Str) = some (.int 0) := set_look k12_tall (by decide +kernel)
        have k13_has : (putF "has" (.ref D) fs12).lookup ("has" : Str) = some (.ref D) := set_self
        generalize (upd H12 x (.ins (CN K) dx (putF "has" (.ref D) fs12))) = H13 at e13 x13 u13 ⊢
        generalize putF "has" (.ref D) fs12 = fs13 at x13 n13 k13_under k13_word k13_pattern k13_tall k13_has
        exact k H13 e13 ⟨x, dx, _, u, rfl, x13, hxB, huB, k13_word, k13_pattern, k13_tall, k13_under, u13⟩
    · have hne : bs ≠ [] := fun z => by rw [z] at h2; exact absurd h2 (by decide)
      have hem : (!(bs.map (·.1)).isEmpty) = true := by
        cases bs with
        | nil => exact absurd rfl hne
        | cons b r => rfl
      rw [hem]
      refine iteT ?_
      have mono : ∀ {H' : Hp}, Stp (TB K) [x] H H' → NDs K H' (x :: B) bs := fun e => hN.keep (e.mono fun b m => by rw [List.mem_singleton.mp m]; exact List.mem_cons_self)
      have hSm : ∀ b ∈ S, b ∈ bs := fun b m => by rw [eS] at m; exact (List.mergeSort_perm ..).mem_iff.mp m
      have hS2 : S.map (·.2) = sortT (bs.map (·.2)) := by rw [eS]; exact sort_zip bs
      have hlen : bs.length ≤ 63 := by
        have := len_lv hg
        rw [List.length_map] at this
        omega
      have hSl : S.length = bs.length := by rw [eS]; exact List.length_mergeSort _
      have htx := textL_len ((goodL_perm (sortT_perm (bs.map (·.2)))).mpr hg)
      have hfm := formL_len hg
      have hlv2 := lvL_perm (sortT_perm (bs.map (·.2)))
      have z4 := zL
      have rowsF : (bs.map fun b => b.2.under.map V.str).flatten = (underL (bs.map (·.2))).map V.str := by
        rw [underL_flat, List.map_flatten, List.map_map, List.map_map]
        rfl
      have hul : (underL (bs.map (·.2))).length = lvL (bs.map (·.2)) := underL_len _
      refine ⟨_, rfl, l, rfl, ⟨_, SqL.of l6⟩, fun D hD => lc2_rows (rows := bs.map fun b => b.2.under.map V.str) (te1 := tFld K (tVar 3) "under") (fun acc => SqL.of (by rw [upd_ne (ne_of_none l6 hD)]; exact l6)) (by rw [List.length_map, List.length_map]) (by rw [rowsF, List.length_map, hul]; omega) (fun _ => rfl) (fun _ _ => rfl) (fun _ _ => rfl) ?_ ?_⟩
      · intro i y row acc hy hrow R hR2
        rw [List.getElem?_map] at hy hrow
        cases eb : bs[i]? with
        | none => rw [eb] at hy; cases hy
        | some b =>
        rw [eb] at hy hrow
        injection hy with hy
        injection hrow with hrow
        subst hy hrow
        have nb : ∀ acc' : List V, ND K (upd H6 D (.lst acc')) (x :: B) b.1 b.2 := fun acc' => ((mono e6) b (List.mem_of_getElem? eb)).keep (T := TB K) (.new hD)
        obtain ⟨a, dxa, fsa, u, ev, ha, _, _, _, _, _, hun, hu⟩ := ((mono e6) b (List.mem_of_getElem? eb)).ex
        have kp : ∀ acc' : List V, Stp (TB K) [] H6 (upd H6 D (.lst acc')) := fun acc' => .new hD
        exact ⟨_, rfl, a, CN K, dxa, fsa, .ref u, ev, (kp acc).get0 ha trivial, cl_Node T, na_Node_under T, hun, hR2 u fun acc' => SqL.of ((kp acc').get0 hu trivial)⟩
      rw [rowsF]
      refine ⟨D, underL (bs.map (·.2)), rfl, SqL.of upd_same, by rw [hul]; exact hlv, fun ys u pm srt hu => ?_⟩
      have ey : ys = sortS (underL (bs.map (·.2))) := sortS_of pm (sortedS_pw srt)
      subst ey
      have eDu : Stp (TB K) [] H6 (upd (upd H6 D (.lst ((underL (bs.map (·.2))).map V.str))) u (.lst ((sortS (underL (bs.map (·.2)))).map V.str))) := (Stp.new hD).alloc hu
      have u7 : (upd (upd H6 D (.lst ((underL (bs.map (·.2))).map V.str))) u (.lst ((sortS (underL (bs.map (·.2)))).map V.str))) u = some (.lst ((sortS (underL (bs.map (·.2)))).map V.str)) := upd_same
      have x7 := eDu.get0 x6 trivial
      have l7 := eDu.get0 l6 trivial
      have p7 := eDu.get0 p6 trivial
      have e7 := e6.trans eDu.wide
      have huB : u ∉ B := fun m => by
        obtain ⟨o, ho, ow⟩ := hB u m
        have hux : u ∉ [x] := fun q => hxB (by rw [← List.mem_singleton.mp q]; exact m)
        have h6 := e6.get ho ow hux
        rw [upd_ne (ne_of_none h6 hD)] at hu
        rw [hu] at h6
        cases h6
      generalize upd (upd H6 D (.lst ((underL (bs.map (·.2))).map V.str))) u (.lst ((sortS (underL (bs.map (·.2)))).map V.str)) = H7 at e7 x7 u7 l7 p7 ⊢
      have hux : u ≠ x := ne_of u7 x7 (by intro z; cases z)
      refine ⟨_, rfl, x, CN K, dx, _, rfl, x7, cl_Node T, na_Node_under T, by omega, ?_⟩
      have n7 := n6
      have k7_inner := k6_inner
      generalize fs6 = fs7 at x7 n7 k7_inner
      have e8 : Stp (TB K) [x] H (upd H7 x (.ins (CN K) dx (putF "under" (.ref u) fs7))) := e7.trans (sx _ _ _ x7 trivial)
      have x8 : (upd H7 x (.ins (CN K) dx (putF "under" (.ref u) fs7))) x = some (.ins (CN K) dx (putF "under" (.ref u) fs7)) := upd_same
      have u8 : (upd H7 x (.ins (CN K) dx (putF "under" (.ref u) fs7))) u = some (.lst ((sortS (underL (bs.map (·.2)))).map V.str)) := by rw [upd_ne hux]; exact u7
      have l8 : (upd H7 x (.ins (CN K) dx (putF "under" (.ref u) fs7))) l = some (.lst (bs.map (·.1))) := by rw [upd_ne hlx]; exact l7
      have p8 : (upd H7 x (.ins (CN K) dx (putF "under" (.ref u) fs7))) p1 = some (.lst (S.map fun b => b.1)) := by rw [upd_ne hpx]; exact p7
      have n8 : (putF "under" (.ref u) fs7).length ≤ 3 := set_len n7
      have k8_inner : (putF "under" (.ref u) fs7).lookup ("inner" : Str) = some (.ref p1) := set_look k7_inner (by decide +kernel)
      have k8_under : (putF "under" (.ref u) fs7).lookup ("under" : Str) = some (.ref u) := set_self
      generalize (upd H7 x (.ins (CN K) dx (putF "under" (.ref u) fs7))) = H8 at e8 x8 u8 l8 p8 ⊢
      generalize putF "under" (.ref u) fs7 = fs8 at x8 n8 k8_inner k8_under
      refine ⟨⟨" ", rfl⟩, _, rfl, x, CN K, dx, _, .ref p1, rfl, x8, cl_Node T, na_Node_inner T, k8_inner, p1, rfl, ⟨_, SqL.of p8⟩, fun D2 hD2 => lc_listY (T := TB K) .refl hD2 p8 (by rw [List.length_map]; omega) (fun i _ acc => acc = (S.take i).map fun b => V.str b.2.text) (fun _ => rfl) (fun _ _ _ _ _ h => h) ?_ ?_⟩
      · intro i y H9 Nx hy e9 kk
        rw [List.getElem?_map] at hy
        cases eb : S[i]? with
        | none => rw [eb] at hy; cases hy
        | some b =>
        rw [eb] at hy
        injection hy with hy
        subst hy
        obtain ⟨a, dxa, fsa, u2, ev, ha, _, _, hwd, _, _, _, _⟩ := ((mono e8) b (hSm b (List.mem_of_getElem? eb))).ex
        refine ⟨rfl, _, rfl, a, CN K, dxa, fsa, _, ev, e9.get0 ha trivial, cl_Node T, na_Node_word T, hwd, kk _ _ .refl fun acc _ h => ?_⟩
        rw [h, take_snoc eb, List.map_append]
        rfl
      intro H9 ys e89 hD9 hy9
      rw [List.length_map, List.take_length] at hy9
      have ey9 : ys = (textL (sortT (bs.map (·.2)))).map V.str := by
        rw [hy9, textL_map, ← hS2, List.map_map, List.map_map]
        rfl
      subst ey9
      have hn9 : (textL (sortT (bs.map (·.2)))).length = bs.length := by rw [textL_map, List.length_map, (sortT_perm _).length_eq, List.length_map]
      have hJ := lenJ " " (textL (sortT (bs.map (·.2))))
      have y1 : (" " : Str).length = 1 := by decide
      have y2 : ("( " : Str).length = 2 := by decide
      have y3 : (" )" : Str).length = 2 := by decide
      rw [hn9, y1] at hJ
      refine ⟨" ", D2, textL (sortT (bs.map (·.2))), rfl, rfl, .inl (SqL.of hD9), by rw [hn9, y1]; omega, "( ", _, rfl, rfl, by omega, _, " )", rfl, rfl, by rw [lenA]; omega, ?_⟩
      have hword : ("( " ++ Txt.join " " (textL (sortT (bs.map (·.2)))) ++ " )" : Str) = (group (bs.map (·.2))).text := rfl
      rw [hword]
      have e9 := e8.trans e89.wide
      have x9 := e89.get0 x8 trivial
      have u9 := e89.get0 u8 trivial
      have l9 := e89.get0 l8 trivial
      refine ⟨_, rfl, x, CN K, dx, _, rfl, x9, cl_Node T, na_Node_word T, by omega, ?_⟩
      have n9 := n8
      have k9_under := k8_under
      generalize fs8 = fs9 at x9 n9 k9_under
      have e10 : Stp (TB K) [x] H (upd H9 x (.ins (CN K) dx (putF "word" (.str (group (bs.map (·.2))).text) fs9))) := e9.trans (sx _ _ _ x9 trivial)
      have x10 : (upd H9 x (.ins (CN K) dx (putF "word" (.str (group (bs.map (·.2))).text) fs9))) x = some (.ins (CN K) dx (putF "word" (.str (group (bs.map (·.2))).text) fs9)) := upd_same
      have u10 : (upd H9 x (.ins (CN K) dx (putF "word" (.str (group (bs.map (·.2))).text) fs9))) u = some (.lst ((sortS (underL (bs.map (·.2)))).map V.str)) := by rw [upd_ne hux]; exact u9
      have l10 : (upd H9 x (.ins (CN K) dx (putF "word" (.str (group (bs.map (·.2))).text) fs9))) l = some (.lst (bs.map (·.1))) := by rw [upd_ne hlx]; exact l9
      have n10 : (putF "word" (.str (group (bs.map (·.2))).text) fs9).length ≤ 4 := set_len n9
      have k10_under : (putF "word" (.str (group (bs.map (·.2))).text) fs9).lookup ("under" : Str) = some (.ref u) := set_look k9_under (by decide +kernel)
      have k10_word : (putF "word" (.str (group (bs.map (·.2))).text) fs9).lookup ("word" : Str) = some (.str (group (bs.map (·.2))).text) := set_self
      generalize (upd H9 x (.ins (CN K) dx (putF "word" (.str (group (bs.map (·.2))).text) fs9))) = H10 at e10 x10 u10 l10 ⊢
      generalize putF "word" (.str (group (bs.map (·.2))).text) fs9 = fs10 at x10 n10 k10_under k10_word
      refine ⟨_, rfl, l, rfl, ⟨_, SqL.of l10⟩, fun D3 hD3 => lc_listY (T := TB K) .refl hD3 l10 (by rw [List.length_map]; omega) (fun i _ acc => acc = (bs.take i).map fun b => V.str b.2.form) (fun _ => rfl) (fun _ _ _ _ _ h => h) ?_ ?_⟩
      · intro i y H11 Nx hy e11 kk
        rw [List.getElem?_map] at hy
        cases eb : bs[i]? with
        | none => rw [eb] at hy; cases hy
        | some b =>
        rw [eb] at hy
        injection hy with hy
        subst hy
        obtain ⟨a, dxa, fsa, u2, ev, ha, _, _, _, hpt, _, _, _⟩ := ((mono e10) b (List.mem_of_getElem? eb)).ex
        refine ⟨rfl, _, rfl, a, CN K, dxa, fsa, _, ev, e11.get0 ha trivial, cl_Node T, na_Node_pattern T, hpt, kk _ _ .refl fun acc _ h => ?_⟩
        rw [h, take_snoc eb, List.map_append]
        rfl
      intro H11 ys e1011 hD11 hy11
      rw [List.length_map, List.take_length] at hy11
      have ey11 : ys = (formL (bs.map (·.2))).map V.str := by
        rw [hy11, formL_map, List.map_map, List.map_map]
        rfl
      subst ey11
      have hn11 : (formL (bs.map (·.2))).length = bs.length := by rw [formL_map, List.length_map, List.length_map]
      have e11 := e10.trans e1011.wide
      refine ⟨D3, formL (bs.map (·.2)), rfl, hD11, by omega, by omega, e11.tabs hT, fun H12 e1112 => ?_⟩
      have hform : ("(" ++ Txt.join "" (sortF (formL (bs.map (·.2)))) ++ ")" : Str) = (group (bs.map (·.2))).form := (LB.group_form (bs.map fun b : V × Tr => b.2)).symm
      rw [hform]
      have e12 := e11.trans e1112.wide
      have x12 := e1112.get0 (e1011.get0 x10 trivial) trivial
      have u12 := e1112.get0 (e1011.get0 u10 trivial) trivial
      have l12 := e1112.get0 (e1011.get0 l10 trivial) trivial
      refine ⟨_, rfl, x, CN K, dx, _, rfl, x12, cl_Node T, na_Node_pattern T, by omega, ?_⟩
      have n12 := n10
      have k12_under := k10_under
      have k12_word := k10_word
      generalize fs10 = fs12 at x12 n12 k12_under k12_word
      have e13 : Stp (TB K) [x] H (upd H12 x (.ins (CN K) dx (putF "pattern" (.str (group (bs.map (·.2))).form) fs12))) := e12.trans (sx _ _ _ x12 trivial)
      have x13 : (upd H12 x (.ins (CN K) dx (putF "pattern" (.str (group (bs.map (·.2))).form) fs12))) x = some (.ins (CN K) dx (putF "pattern" (.str (group (bs.map (·.2))).form) fs12)) := upd_same
      have u13 : (upd H12 x (.ins (CN K) dx (putF "pattern" (.str (group (bs.map (·.2))).form) fs12))) u = some (.lst ((sortS (underL (bs.map (·.2)))).map V.str)) := by rw [upd_ne hux]; exact u12
      have l13 : (upd H12 x (.ins (CN K) dx (putF "pattern" (.str (group (bs.map (·.2))).form) fs12))) l = some (.lst (bs.map (·.1))) := by rw [upd_ne hlx]; exact l12
      have n13 : (putF "pattern" (.str (group (bs.map (·.2))).form) fs12).length ≤ 5 := set_len n12
      have k13_under : (putF "pattern" (.str (group (bs.map (·.2))).form) fs12).lookup ("under" : Str) = some (.ref u) := set_look k12_under (by decide +kernel)
      have k13_word : (putF "pattern" (.str (group (bs.map (·.2))).form) fs12).lookup ("word" : Str) = some (.str (group (bs.map (·.2))).text) := set_look k12_word (by decide +kernel)
      have k13_pattern : (putF "pattern" (.str (group (bs.map (·.2))).form) fs12).lookup ("pattern" : Str) = some (.str (group (bs.map (·.2))).form) := set_self
      generalize (upd H12 x (.ins (CN K) dx (putF "pattern" (.str (group (bs.map (·.2))).form) fs12))) = H13 at e13 x13 u13 l13 ⊢
      generalize putF "pattern" (.str (group (bs.map (·.2))).form) fs12 = fs13 at x13 n13 k13_under k13_word k13_pattern
      refine ⟨_, rfl, l, rfl, ⟨_, SqL.of l13⟩, fun D4 hD4 => lc_listY (T := TB K) .refl hD4 l13 (by rw [List.length_map]; omega) (fun i _ acc => acc = (bs.take i).map fun b => V.int (b.2.hgt : Int)) (fun _ => rfl) (fun _ _ _ _ _ h => h) ?_ ?_⟩
      · intro i y H14 Nx hy e14 kk
        rw [List.getElem?_map] at hy
        cases eb : bs[i]? with
        | none => rw [eb] at hy; cases hy
        | some b =>
        rw [eb] at hy
        injection hy with hy
        subst hy
        obtain ⟨a, dxa, fsa, u2, ev, ha, _, _, _, _, htl, _, _⟩ := ((mono e13) b (List.mem_of_getElem? eb)).ex
        refine ⟨rfl, _, rfl, a, CN K, dxa, fsa, _, ev, e14.get0 ha trivial, cl_Node T, na_Node_tall T, htl, kk _ _ .refl fun acc _ h => ?_⟩
        rw [h, take_snoc eb, List.map_append]
        rfl
      intro H14 ys e1314 hD14 hy14
      rw [List.length_map, List.take_length] at hy14
      have ey14 : ys = ((bs.map (·.2)).map fun t => (t.hgt : Int)).map V.int := by
        rw [hy14, List.map_map, List.map_map]
        rfl
      subst ey14
      refine ⟨D4, _, rfl, SqL.of hD14, by rw [List.length_map, List.length_map]; omega, fun m hm hmy => ?_⟩
      rw [hgtL_max hm hmy]
      refine ⟨_, _, rfl, rfl, ?_⟩
      have htall : (1 : Int) + ((hgtL (bs.map (·.2)) : Nat) : Int) = (((group (bs.map (·.2))).hgt : Nat) : Int) := by
        rw [group_hgt]
        omega
      have e14 := e13.trans e1314.wide
      have x14 := e1314.get0 x13 trivial
      have u14 := e1314.get0 u13 trivial
      refine ⟨_, rfl, x, CN K, dx, _, rfl, x14, cl_Node T, na_Node_tall T, by omega, ?_⟩
      have n14 := n13
      have k14_under := k13_under
      have k14_word := k13_word
      have k14_pattern := k13_pattern
      generalize fs13 = fs14 at x14 n14 k14_under k14_word k14_pattern
      have e15 : Stp (TB K) [x] H (upd H14 x (.ins (CN K) dx (putF "tall" (.int ((1 : Int) + ((hgtL (bs.map (·.2)) : Nat) : Int))) fs14))) := e14.trans (sx _ _ _ x14 trivial)
      have x15 : (upd H14 x (.ins (CN K) dx (putF "tall" (.int ((1 : Int) + ((hgtL (bs.map (·.2)) : Nat) : Int))) fs14))) x = some (.ins (CN K) dx (putF "tall" (.int ((1 : Int) + ((hgtL (bs.map (·.2)) : Nat) : Int))) fs14)) := upd_same
      have u15 : (upd H14 x (.ins (CN K) dx (putF "tall" (.int ((1 : Int) + ((hgtL (bs.map (·.2)) : Nat) : Int))) fs14))) u = some (.lst ((sortS (underL (bs.map (·.2)))).map V.str)) := by rw [upd_ne hux]; exact u14
      have n15 : (putF "tall" (.int ((1 : Int) + ((hgtL (bs.map (·.2)) : Nat) : Int))) fs14).length ≤ 6 := set_len n14
      have k15_under : (putF "tall" (.int ((1 : Int) + ((hgtL (bs.map (·.2)) : Nat) : Int))) fs14).lookup ("under" : Str) = some (.ref u) := set_look k14_under (by decide +kernel)
      have k15_word : (putF "tall" (.int ((1 : Int) + ((hgtL (bs.map (·.2)) : Nat) : Int))) fs14).lookup ("word" : Str) = some (.str (group (bs.map (·.2))).text) := set_look k14_word (by decide +kernel)
      have k15_pattern : (putF "tall" (.int ((1 : Int) + ((hgtL (bs.map (·.2)) : Nat) : Int))) fs14).lookup ("pattern" : Str) = some (.str (group (bs.map (·.2))).form) := set_look k14_pattern (by decide +kernel)
      have k15_tall : (putF "tall" (.int ((1 : Int) + ((hgtL (bs.map (·.2)) : Nat) : Int))) fs14).lookup ("tall" : Str) = some (.int ((1 : Int) + ((hgtL (bs.map (·.2)) : Nat) : Int))) := set_self
      generalize (upd H14 x (.ins (CN K) dx (putF "tall" (.int ((1 : Int) + ((hgtL (bs.map (·.2)) : Nat) : Int))) fs14))) = H15 at e15 x15 u15 ⊢
      generalize putF "tall" (.int ((1 : Int) + ((hgtL (bs.map (·.2)) : Nat) : Int))) fs14 = fs15 at x15 n15 k15_under k15_word k15_pattern k15_tall
      refine ⟨_, rfl, x, CN K, dx, _, .ref u, rfl, x15, cl_Node T, na_Node_under T, k15_under, u, rfl, ⟨_, SqL.of u15⟩, fun D5 hD5 => dc_strs (ws := sortS (underL (bs.map (·.2)))) (fun kvs => SqL.of (by rw [upd_ne (ne_of_none u15 hD5)]; exact u15)) (by rw [sortS_len, hul]; omega) (fun _ => rfl) (fun _ => rfl) fun kvs => ?_⟩
      have x16 : (upd H15 D5 (.dK kvs)) x = some (.ins (CN K) dx fs15) := by rw [upd_ne (ne_of_none x15 hD5)]; exact x15
      have u16 : (upd H15 D5 (.dK kvs)) u = some (.lst ((sortS (underL (bs.map (·.2)))).map V.str)) := by rw [upd_ne (ne_of_none u15 hD5)]; exact u15
      have e16 : Stp (TB K) [x] H (upd H15 D5 (.dK kvs)) := e15.alloc hD5
      generalize upd H15 D5 (.dK kvs) = H16 at e16 x16 u16 ⊢
      refine ⟨_, rfl, x, CN K, dx, _, rfl, x16, cl_Node T, na_Node_has T, by omega, ?_⟩
      have n16 := n15
      have k16_under := k15_under
      have k16_word := k15_word
      have k16_pattern := k15_pattern
      have k16_tall := k15_tall
      generalize fs15 = fs16 at x16 n16 k16_under k16_word k16_pattern k16_tall
      have e17 : Stp (TB K) [x] H (upd H16 x (.ins (CN K) dx (putF "has" (.ref D5) fs16))) := e16.trans (sx _ _ _ x16 trivial)
      have x17 : (upd H16 x (.ins (CN K) dx (putF "has" (.ref D5) fs16))) x = some (.ins (CN K) dx (putF "has" (.ref D5) fs16)) := upd_same
      have u17 : (upd H16 x (.ins (CN K) dx (putF "has" (.ref D5) fs16))) u = some (.lst ((sortS (underL (bs.map (·.2)))).map V.str)) := by rw [upd_ne hux]; exact u16
      have n17 : (putF "has" (.ref D5) fs16).length ≤ 7 := set_len n16
      have k17_under : (putF "has" (.ref D5) fs16).lookup ("under" : Str) = some (.ref u) := set_look k16_under (by decide +kernel)
      have k17_word : (putF "has" (.ref D5) fs16).lookup ("word" : Str) = some (.str (group (bs.map (·.2))).text) := set_look k16_word (by decide +kernel)
      have k17_pattern : (putF "has" (.ref D5) fs16).lookup ("pattern" : Str) = some (.str (group (bs.map (·.2))).form) := set_look k16_pattern (by decide +kernel)
      have k17_tall : (putF "has" (.ref D5) fs16).lookup ("tall" : Str) = some (.int ((1 : Int) + ((hgtL (bs.map (·.2)) : Nat) : Int))) := set_look k16_tall (by decide +kernel)
      have k17_has : (putF "has" (.ref D5) fs16).lookup ("has" : Str) = some (.ref D5) := set_self
      generalize (upd H16 x (.ins (CN K) dx (putF "has" (.ref D5) fs16))) = H17 at e17 x17 u17 ⊢
      generalize putF "has" (.ref D5) fs16 = fs17 at x17 n17 k17_under k17_word k17_pattern k17_tall k17_has
      rw [htall] at k17_tall
      refine k H17 e17 ⟨x, dx, _, u, rfl, x17, hxB, huB, k17_word, k17_pattern, k17_tall, k17_under, ?_⟩
      rw [group_under]
      exact u17) (g_Node T) (mk_Node T)
end
end K3

namespace K3
open PySem PySem.Spec PyProof.Rows L2 LamX LK LB
/-- the lists of the levels, the last one first -/
def Lev (K : PySem.W.Frag) (H : Hp) (B : List Addr) : List Addr → Stk → Prop
  | [], [] => True
  | a :: as, ts :: m => (∃ bs : List (V × Tr), H a = some (.lst (bs.map (·.1))) ∧ ts = bs.map (·.2) ∧ NDs K H B bs) ∧ Lev K H B as m
  | [], _ :: _ => False
  | _ :: _, [] => False
section
variable {K : PySem.W.Frag} {T : TBs} {H H' : Hp} {B B' : List Addr} {x : Addr} {o : HO}
theorem Lev.len : ∀ {as : List Addr} {m : Stk}, Lev K H B as m → as.length = m.length
  | [], [], _ => rfl
  | _ :: _, _ :: _, h => congrArg (· + 1) (Lev.len h.2)
  | [], _ :: _, h => h.elim
  | _ :: _, [], h => h.elim
theorem Lev.keep : ∀ {as : List Addr} {m : Stk}, Lev K H B as m → Stp T [] H H' → Lev K H' B as m
  | [], [], _, _ => trivial
  | _ :: _, _ :: _, ⟨⟨bs, h1, h2, h3⟩, r⟩, e => ⟨⟨bs, e.get0 h1 trivial, h2, h3.keep e.wide⟩, r.keep e⟩
  | [], _ :: _, h, _ => h.elim
  | _ :: _, [], h, _ => h.elim
theorem Lev.upd {u : HO} (hx : H x = some u) (ow : Own u) (hB : x ∈ B) : ∀ {as : List Addr} {m : Stk}, Lev K H B as m → x ∉ as → Lev K (upd H x o) B as m
  | [], [], _, _ => trivial
  | a :: as, _ :: _, ⟨⟨bs, h1, h2, h3⟩, r⟩, n => ⟨⟨bs, by rw [upd_ne (fun e => n (by rw [e]; exact List.mem_cons_self))]; exact h1, h2, h3.keep (T := []) (.set hx ow hB)⟩, Lev.upd hx ow hB r fun m => n (List.mem_cons_of_mem _ m)⟩
  | [], _ :: _, h, _ => h.elim
  | _ :: _, [], h, _ => h.elim
theorem Lev.less (hs : ∀ x ∈ B', x ∈ B) : ∀ {as : List Addr} {m : Stk}, Lev K H B as m → Lev K H B' as m
  | [], [], _ => trivial
  | _ :: _, _ :: _, ⟨⟨bs, h1, h2, h3⟩, r⟩ => ⟨⟨bs, h1, h2, fun b m => (h3 b m).less hs⟩, Lev.less hs r⟩
  | [], _ :: _, h => h.elim
  | _ :: _, [], h => h.elim
theorem Lev.grow (hx : H x = none) : ∀ {as : List Addr} {m : Stk}, Lev K H B as m → Lev K H (x :: B) as m
  | [], [], _ => trivial
  | _ :: _, _ :: _, ⟨⟨bs, h1, h2, h3⟩, r⟩ => ⟨⟨bs, h1, h2, h3.grow hx⟩, Lev.grow hx r⟩
  | [], _ :: _, h => h.elim
  | _ :: _, [], h => h.elim
end
theorem Lev.obj {K : PySem.W.Frag} {H : Hp} {B : List Addr} : ∀ {as : List Addr} {m : Stk}, Lev K H B as m → ∀ z ∈ as, ∃ o, H z = some o ∧ Own o
  | [], [], _, z, mz => by cases mz
  | a :: as, _ :: _, ⟨⟨bs, h1, _, _⟩, r⟩, z, mz => by
    rcases List.mem_cons.mp mz with rfl | mz
    · exact ⟨_, h1, trivial⟩
    · exact Lev.obj r z mz
  | [], _ :: _, h, _, _ => h.elim
  | _ :: _, [], h, _, _ => h.elim
/-- the state of read_words ahead of the i-th word -/
def RInv (K : PySem.W.Frag) (Tb : TBs) (H : Hp) (wl LL sd : Addr) (S : Sx) (i : Nat) (σ : L2.St) (H' : Hp) : Prop := ∃ (as : List Addr) (m : Stk) (se : List Str) (kvs : List (Key × V)) (p3 p4 p5 p6 : Option V), σ = [some (.ref wl), some (.ref LL), some (.ref sd), p3, p4, p5, p6] ∧
  Stp Tb [] H H' ∧ H' LL = some (.lst (as.reverse.map V.ref)) ∧ H' sd = some (.dK kvs) ∧ (∀ x, x ∉ se → valV kvs (.inr x) = none) ∧ kvs.length ≤ se.length ∧ kvs.length ≤ i ∧ (∀ l ∈ m, l.length ≤ i) ∧ Lev K H' (LL :: sd :: as) as m ∧ (LL :: sd :: as).Nodup ∧ (∀ a ∈ as, Nw H a) ∧ Run (fun m s => m = [[S.val]] ∧ s.length = S.nms.length) (S.words.drop i) m se
theorem RInv.put {K : PySem.W.Frag} {Tb : TBs} {H H7 : Hp} {wl LL sd b : Addr} {S : Sx} {i : Nat} {p3 p4 p5 p6 : Option V} {as : List Addr} {m0 : Stk} {se : List Str} {kvs : List (Key × V)} {bl : List (V × Tr)} {v : V} {t : Tr}
    (e : Stp Tb [] H H7) (hL : H7 LL = some (.lst ((b :: as).reverse.map V.ref))) (hs : H7 sd = some (.dK kvs)) (hv : ∀ x, x ∉ se → valV kvs (.inr x) = none) (hk : kvs.length ≤ se.length) (hki : kvs.length ≤ i + 1) (hml : ∀ l ∈ (bl.map (·.2) :: m0), l.length ≤ i) (hb : H7 b = some (.lst (bl.map (·.1)))) (nl : NDs K H7 (LL :: sd :: b :: as) bl)
    (lv : Lev K H7 (LL :: sd :: b :: as) as m0) (nv : ND K H7 (LL :: sd :: b :: as) v t) (nd : (LL :: sd :: b :: as).Nodup) (nw : ∀ a ∈ (b :: as), Nw H a) (rn : Run (fun m s => m = [[S.val]] ∧ s.length = S.nms.length) (S.words.drop (i + 1)) ((bl.map (·.2) ++ [t]) :: m0) se) :
    RInv K Tb H wl LL sd S (i + 1) [some (.ref wl), some (.ref LL), some (.ref sd), p3, p4, p5, p6] (upd H7 b (.lst (bl.map (·.1) ++ [v]))) := by
  have hnd := nd
  simp only [List.nodup_cons, List.mem_cons, not_or] at hnd
  obtain ⟨⟨q1, q2, q3⟩, ⟨q4, q5⟩, q6, q7⟩ := hnd
  have mb : b ∈ (LL :: sd :: b :: as) := List.mem_cons_of_mem _ (List.mem_cons_of_mem _ List.mem_cons_self)
  have eB : Stp Tb (LL :: sd :: b :: as) H7 (upd H7 b (.lst (bl.map (·.1) ++ [v]))) := .set hb trivial mb
  refine ⟨b :: as, (bl.map (·.2) ++ [t]) :: m0, se, kvs, p3, p4, p5, p6, rfl, e.mut (.inl (nw b List.mem_cons_self)) hb trivial, ?_, ?_, hv, hk, hki, ?_, ⟨⟨bl ++ [(v, t)], ?_, ?_, ?_⟩, lv.upd hb trivial mb q6⟩, nd, nw, rn⟩
  · rw [upd_ne q2]
    exact hL
  · rw [upd_ne (fun z => q4 z)]
    exact hs
  · intro l m
    rcases List.mem_cons.mp m with rfl | m
    · have := hml _ List.mem_cons_self
      rw [List.length_append]
      simp only [List.length_cons, List.length_nil]
      omega
    · exact Nat.le_succ_of_le (hml l (List.mem_cons_of_mem _ m))
  · rw [upd_same, List.map_append]
    rfl
  · rw [List.map_append]
    rfl
  · intro x mx
    rcases List.mem_append.mp mx with mx | mx
    · exact (nl x mx).keep eB
    · rw [List.mem_singleton.mp mx]
      exact nv.keep eB
theorem Lev.keepB {K : PySem.W.Frag} {H H' : Hp} {B : List Addr} {as : List Addr} {m : Stk} (l : Lev K H B as m) (e : Stp [] [] H H') : Lev K H' B as m := l.keep e
theorem ex2of {H6 : Hp} {x dx C d2 : Addr} {fs : List (Str × V)} (hx : H6 x = none) (hdx : H6 dx = none) (hxd : dx ≠ x) {z : Addr} {o : HO} (h : H6 z = some o) : (upd (upd H6 dx (.own x)) x (.ins C d2 fs)) z = some o := by
  rw [upd_ne (ne_of_none h hx), upd_ne (ne_of_none h hdx)]
  exact h
theorem leaf_ne {nm : Str} {fr : Bool} {c : Nat} {z : Str} (h : isNm nm = true) (hz : z.cps.toList = [c]) (hc : c < 97) : (Tr.leaf nm fr).text ≠ z := by
  intro e
  obtain ⟨c0, r, e0, hc0, _⟩ := isNm_cps h
  have h1 := congrArg (fun s : Str => s.cps.toList) e
  have h2 := letters_lt hc0
  cases fr with
  | true =>
    have h3 : nm.cps.toList = z.cps.toList := h1
    rw [e0, hz] at h3
    injection h3 with h3 _
    omega
  | false =>
    have h3 : (nm ++ "|" : Str).cps.toList = z.cps.toList := h1
    rw [cpsA, e0, hz] at h3
    injection h3 with h3 _
    omega
section
variable {P : Program} {w : World} {K : PySem.W.Frag} {mg : Str → Option Value} {base : Heap}
def spRead (K : PySem.W.Frag) (Tb : TBs) : Sp := fun vs H Q _ => ∃ (wl : Addr) (S : Sx), vs = [.ref wl] ∧ H wl = some (.lst (S.words.map V.str)) ∧ S.ok ∧ S.dep ≤ 8 ∧ S.nms.Nodup ∧ S.nms.length ≤ 10 ∧ S.words.length ≤ 1000 ∧ Tabs Tb H ∧
  ∀ v H', Stp Tb [] H H' → ND K H' [] v S.val → Q v H'
theorem top_at (as : List Addr) (a : Addr) : ((a :: as).reverse.map V.ref) = as.reverse.map V.ref ++ [.ref a] := by
  rw [List.reverse_cons, List.map_append]
  rfl
theorem cal_read (T : Tx K mg base) : Cal P w K mg base 13 "read_words" (spRead K (TB K)) :=
  cal_mk (fn_read_words T (k := 12) (fun vs H Q E ⟨wl, S, e, _⟩ => by rw [e]; rfl) fun A outer s H vs Q E hr h => by
    obtain ⟨wl, S, rfl, hw, hok, hdep, hnd, hten, hwlen, hT, k⟩ := h
    have hu := hu1 hr
    have c_bare_name : Cal P w K mg base 1 "bare_name" spBare := cal_bare T
    have c_is_name : Cal P w K mg base 2 "is_name" (spNamed (TB K)) := cal_isname T
    have m_Node : Mak P w K mg base 11 "Node" (CN K) (spNode K (TB K)) := cal_node T
    refine ⟨_, (pss_cons (ps_set (i := 1) sc_read_words.nd rfl (Or.inl rfl) (pe_lst (pa_cons (pe_lst pa_nil) pa_nil)))
  (pss_cons (ps_set (i := 2) sc_read_words.nd rfl (Or.inl rfl) pe_dnewK)
  (pss_cons (ps_for PassesOwn.never rfl (pi_enum (by rfl) (n_enumerate T) (pa_cons (pv 0) pa_nil)) (pg_tup (by rfl) (pgs_cons (pg_name (i := 3) sc_read_words.nd rfl (Or.inl rfl)) (pgs_cons (pg_name (i := 4) sc_read_words.nd rfl (Or.inl rfl)) pgs_nil))) (pss_cons (ps_if (PW.pt (pw_and (pt_cmpR op_eq (pe_callB call_len_seq (by rfl) (n_len T) (by decide +kernel) (pa_cons (pv 1) pa_nil)) pe_int (nomark _)) (pw_and1 (pt_truth (pe_ix ix_list (pv 1) pe_int (fun _ _ => rfl)) (by intro _; rfl))))) (pss_one ps_never) pss_nil)
  (pss_one (ps_if (pt_cmpR op_eq (pv 4) pe_str (nomark _)) (pss_cons (ps_if (pt_cmpR op_gt (pe_callB call_len_seq (by rfl) (n_len T) (by decide +kernel) (pa_cons (pv 1) pa_nil)) (pe_gc rfl (k_MOST_NESTED T)) (nomark _)) (pss_one ps_never) pss_nil)
  (pss_one (ps_expr (pe_bm PySem.F.plainAttrs_list PySem.F.slot_list_append PySem.F.type_list_append mt_append (pv 1) (pa_cons (pe_lst pa_nil) pa_nil))))) (pss_one (ps_if (pt_cmpR op_eq (pv 4) pe_str (nomark _)) (pss_cons (ps_if (PW.pt (pw_or (pt_cmpR op_eq (pe_callB call_len_seq (by rfl) (n_len T) (by decide +kernel) (pa_cons (pv 1) pa_nil)) pe_int (nomark _)) (pw_or1 (pt_not (pt_truth (pe_ix ix_list (pv 1) (pe_un un_neg pe_int) (fun _ _ => rfl)) (by intro _; rfl)))))) (pss_one ps_never) pss_nil)
  (pss_cons (ps_set (i := 5) sc_read_words.nd rfl (Or.inl rfl) (pe_bm0 PySem.F.plainAttrs_list PySem.F.slot_list_pop PySem.F.type_list_pop mt_pop (pv 1)))
  (pss_one (ps_expr (pe_bm PySem.F.plainAttrs_list PySem.F.slot_list_append PySem.F.type_list_append mt_append (pe_ix ix_list (pv 1) (pe_un un_neg pe_int) (fun _ _ => rfl)) (pa_cons (pe_ifExp (pt_cmpR op_eq (pe_callB call_len_seq (by rfl) (n_len T) (by decide +kernel) (pa_cons (pv 5) pa_nil)) pe_int (nomark _)) (pe_ix ix_list (pv 5) pe_int (fun _ _ => rfl)) (pe_mk m_Node hr (by omega) rfl (pa_cons pe_str (pa_cons (pv 5) pa_nil)))) pa_nil)))))) (pss_cons (ps_set (i := 6) sc_read_words.nd rfl (Or.inl rfl) (pe_c c_bare_name hr (by omega) rfl (pa_cons (pv 4) pa_nil)))
  (pss_cons (ps_if (pt_not (pt_val (pe_c c_is_name hr (by omega) rfl (pa_cons (pv 6) pa_nil)))) (pss_one ps_never) pss_nil)
  (pss_cons (ps_if (pt_cmp (pc_din hu (pv 6) (pv 2))) (pss_one ps_never) pss_nil)
  (pss_cons (ps_dput hu (pv 2) (pv 6) pe_bl rfl)
  (pss_one (ps_expr (pe_bm PySem.F.plainAttrs_list PySem.F.slot_list_append PySem.F.type_list_append mt_append (pe_ix ix_list (pv 1) (pe_un un_neg pe_int) (fun _ _ => rfl)) (pa_cons (pe_mk m_Node hr (by omega) rfl (pa_cons (pv 4) (pa_cons (pe_lst pa_nil) pa_nil))) pa_nil))))))))))))))
  (pss_cons (ps_if (PW.pt (pw_or (pt_cmpR op_gt (pe_callB call_len_seq (by rfl) (n_len T) (by decide +kernel) (pa_cons (pv 1) pa_nil)) pe_int (nomark _)) (pw_or1 (pt_not (pt_truth (pe_ix ix_list (pv 1) pe_int (fun _ _ => rfl)) (by intro _; rfl)))))) (pss_one ps_never) pss_nil)
  (pss_cons (ps_if (pt_cmpR op_gt (pe_callB call_lenD (by rfl) (n_len T) (by decide +kernel) (pa_cons (pv 2) pa_nil)) (pe_gc rfl (k_MOST_LANES T)) (nomark _)) (pss_one ps_never) pss_nil)
  (pss_one (ps_ret (pe_ix ix_list (pe_ix ix_list (pv 1) pe_int (fun _ _ => rfl)) pe_int (fun _ _ => rfl))))))))), ?_⟩
    refine ⟨(by show 0 ≤ sizeLine; decide), fun a0 ha0 => ?_⟩
    refine ⟨(by show 1 ≤ sizeLine; decide), fun LL hLL => ?_⟩
    intro sd hsd
    have e1 : Stp (TB K) [] H (upd H a0 (.lst [])) := .new ha0
    have e2 : Stp (TB K) [] H (upd (upd H a0 (.lst [])) LL (.lst [.ref a0])) := e1.alloc hLL
    have e3 : Stp (TB K) [] H (upd (upd (upd H a0 (.lst [])) LL (.lst [.ref a0])) sd (.dK [])) := e2.alloc hsd
    have n0 : Nw H a0 := .of ha0
    have nL : Nw H LL := (Nw.of hLL).back e1
    have nS : Nw H sd := (Nw.of hsd).back e2
    have haL : a0 ≠ LL := ne_of_none (H := upd H a0 (.lst [])) upd_same hLL
    have hLS : LL ≠ sd := ne_of_none upd_same hsd
    have haS : a0 ≠ sd := ne_of_none (o := .lst []) (by rw [upd_ne haL]; exact upd_same) hsd
    have hrun := run_top hok hdep hnd (by omega)
    have hlm : (S.words.map V.str).length = S.words.length := List.length_map _
    refine ⟨_, rfl, wl, _, rfl, SqL.of (e3.get0 hw trivial), for_it (walk_enum (K := K) (a := wl) (xs := S.words.map V.str)) (fun i σ H' => RInv K (TB K) H wl LL sd S i σ H')
      ⟨[a0], [[]], [], [], none, none, none, none, rfl, e3, ?_, upd_same, fun _ _ => rfl, Nat.le_refl _, Nat.le_refl _, fun l m => by rw [List.mem_singleton.mp m]; exact Nat.le_refl _, ⟨⟨[], ?_, rfl, fun b m => by cases m⟩, trivial⟩, ?_, ?_, hrun⟩ (fun i σ H' _ ⟨_, _, _, _, _, _, _, _, _, e, _⟩ => SqL.of (e.get0 hw trivial)) ?_ ?_⟩
    · rw [upd_ne hLS]
      exact upd_same
    · rw [upd_ne haS, upd_ne haL]
      exact upd_same
    · simp only [List.nodup_cons, List.mem_cons, List.not_mem_nil, or_false, not_false_iff, List.nodup_nil, and_true, not_or]
      exact ⟨⟨hLS, fun e => haL e.symm⟩, fun e => haS e.symm⟩
    · intro a m
      rw [List.mem_singleton.mp m]
      exact n0
    · rintro i x σ H1 H1' hi ⟨as, m, se, kvs, p3, p4, p5, p6, rfl, e4, hL4, hs4, hv4, hk4, hk4i, hml4, lv4, nd4, nw4, rn4⟩ ⟨Tt, xi, xw, rfl, hTt, rfl, hxi, hxw⟩
      injection hxi with hxi
      subst hxi
      obtain ⟨wd, hwd, rfl⟩ := str_of_map hxw
      rw [hlm] at hi
      have hdr : S.words.drop i = wd :: S.words.drop (i + 1) := by
        have := List.drop_eq_getElem_cons hi
        rw [this]
        rw [List.getElem?_eq_getElem hi] at hwd
        injection hwd with hwd
        rw [hwd]
      rw [hdr] at rn4
      obtain ⟨m1, s1, st, rn5⟩ := rn4
      have et : Stp (TB K) [] H1 (upd H1 Tt (.tup [.int (i : Nat), .str wd])) := .new hTt
      have hL5 := et.get0 hL4 trivial
      have hs5 := et.get0 hs4 trivial
      have lv5 := lv4.keep et
      have e5 := e4.trans et
      have tt5 : (upd H1 Tt (.tup [.int (i : Nat), .str wd])) Tt = some (.tup [.int (i : Nat), .str wd]) := upd_same
      refine ⟨Tt, _, rfl, SqT.of tt5, rfl, _, _, rfl, _, _, rfl, rfl, ?_⟩
      generalize upd H1 Tt (.tup [.int (i : Nat), .str wd]) = H5 at hL5 hs5 lv5 e5 ⊢
      clear et tt5
      have hml := lv5.len
      have one : m.length = 1 → m = [[]] := by
        intro h1
        cases st with
        | opn h _ _ => exact h h1
        | cls _ _ _ => simp at h1
        | @nam l2 m2 s2 nm fr h _ _ =>
          simp only [List.length_cons] at h1
          have hm0 : m2 = [] := List.eq_nil_of_length_eq_zero (by omega)
          rw [h hm0, hm0]
      have hrl : (as.reverse.map V.ref).length = m.length := by rw [List.length_map, List.length_reverse, hml]
      refine ⟨_, rfl, LL, _, rfl, .inl (SqL.of hL5), ?_⟩
      rw [hrl]
      refine ⟨rfl, _, rfl, ?_⟩
      have dz : decide (V.int (m.length : Int) = V.int 1) = decide (m.length = 1) := decide_eq_decide.mpr ⟨fun e => by injection e with e; omega, fun e => by rw [e]; rfl⟩
      rw [dz]
      by_cases h1 : m.length = 1
      · rw [decide_eq_true h1]
        refine iteT ?_
        have hm1 := one h1
        obtain ⟨a, ea⟩ : ∃ a, as = [a] := List.length_eq_one_iff.mp (by rw [hml]; exact h1)
        have ha5 : H5 a = some (.lst []) := by
          rw [hm1, ea] at lv5
          obtain ⟨⟨bs, h2, h3, _⟩, _⟩ := lv5
          have hb0 : bs = [] := List.map_eq_nil_iff.mp h3.symm
          rw [h2, hb0]
          rfl
        have ev : (as.reverse.map V.ref)[0]? = some (.ref a) := by rw [ea]; rfl
        refine ⟨_, rfl, LL, _, 0, .ref a, rfl, rfl, SqL.of hL5, atI_nat (j := 0) ev, _, .inl ⟨[], SqL.of ha5, rfl⟩, ?_⟩
        refine iteF ?_
        clear hm1 ha5 ev ea h1 one dz
        refine ⟨_, rfl, rfl, _, rfl, ?_⟩
        have nwLS : ∀ z ∈ (LL :: sd :: as), Nw H z := fun z m => by
          rcases List.mem_cons.mp m with rfl | m
          · exact nL
          · rcases List.mem_cons.mp m with rfl | m
            · exact nS
            · exact nw4 z m
        cases st with
        | @opn m se _ h8 _ =>
          rw [decide_eq_true rfl]
          refine iteT ?_
          refine ⟨_, rfl, LL, _, rfl, .inl (SqL.of hL5), ?_⟩
          rw [hrl]
          refine ⟨_, _, rfl, rfl, _, rfl, ?_⟩
          rw [decide_eq_false (by omega)]
          refine iteF ?_
          refine ⟨_, rfl, .inl ⟨rfl, _, SqL.of hL5⟩, (by show 0 ≤ sizeLine; decide), fun a ha => ?_⟩
          have ea : Stp (TB K) [] H5 (upd H5 a (.lst [])) := .new ha
          have hL6 := ea.get0 hL5 trivial
          have hs6 := ea.get0 hs5 trivial
          have lv6 := (lv5.keep ea)
          have hB6 : ∀ z ∈ (LL :: sd :: as), ∃ o, H5 z = some o ∧ Own o := fun z m => by
            rcases List.mem_cons.mp m with rfl | m
            · exact ⟨_, hL5, trivial⟩
            · rcases List.mem_cons.mp m with rfl | m
              · exact ⟨_, hs5, trivial⟩
              · exact lv5.obj z m
          have haB : a ∉ (LL :: sd :: as) := fun m => by
            obtain ⟨o, ho, _⟩ := hB6 a m
            rw [ha] at ho
            cases ho
          have e6 := e5.trans ea
          have na : Nw H a := (Nw.of ha).back e5
          have a6 : (upd H5 a (.lst [])) a = some (.lst []) := upd_same
          have lv6b : Lev K (upd H5 a (.lst [])) (a :: LL :: sd :: as) as m := (lv5.grow ha).keepB (.of fun z o h => by rw [upd_ne (ne_of_none h ha)]; exact h)
          generalize upd H5 a (.lst []) = H6 at hL6 hs6 lv6 e6 a6 lv6b ⊢
          refine ⟨LL, _, _, rfl, rfl, hL6, by rw [hrl, zL]; omega, ?_⟩
          have nd7 : (LL :: sd :: a :: as).Nodup := by
            simp only [List.nodup_cons, List.mem_cons, not_or] at nd4 haB ⊢
            exact ⟨⟨nd4.1.1, fun e => haB.1 e.symm, nd4.1.2⟩, ⟨fun e => haB.2.1 e.symm, nd4.2.1⟩, haB.2.2, nd4.2.2⟩
          have sub : ∀ z ∈ (LL :: sd :: a :: as), z ∈ (a :: LL :: sd :: as) := fun z m => by
            simp only [List.mem_cons] at m ⊢
            rcases m with h | h | h | h
            · exact .inr (.inl h)
            · exact .inr (.inr (.inl h))
            · exact .inl h
            · exact .inr (.inr (.inr h))
          have hLa : LL ∉ (a :: as) := fun m => by
            rcases List.mem_cons.mp m with e | m
            · exact haB (by rw [← e]; exact List.mem_cons_self)
            · exact (List.nodup_cons.mp nd4).1 (List.mem_cons_of_mem _ m)
          have hLs : LL ≠ sd := fun e => (List.nodup_cons.mp nd4).1 (by rw [e]; exact List.mem_cons_self)
          have hLa1 : a ≠ LL := fun e => haB (by rw [e]; exact List.mem_cons_self)
          have lv7 : Lev K H6 (LL :: sd :: a :: as) (a :: as) ([] :: m) := ⟨⟨[], a6, rfl, fun b m => by cases m⟩, lv6b.less sub⟩
          refine ⟨a :: as, [] :: m, se, kvs, _, _, _, _, rfl, e6.mut (.inl nL) hL6 trivial, ?_, ?_, hv4, hk4, by omega, (fun l m => by
            rcases List.mem_cons.mp m with rfl | m
            · exact Nat.zero_le _
            · exact Nat.le_succ_of_le (hml4 l m)), lv7.upd hL6 trivial List.mem_cons_self hLa, nd7, ?_, rn5⟩
          · rw [upd_same, top_at]
          · rw [upd_ne (fun e => hLs e.symm)]
            exact hs6
          · intro z m
            rcases List.mem_cons.mp m with rfl | m
            · exact na
            · exact nw4 z m
        | @cls i0 l0 m0 se hne gi vi =>
          have d1 : decide (V.str ")" = V.str "(") = false := by decide +kernel
          rw [d1]
          refine iteF ?_
          refine ⟨_, rfl, rfl, _, rfl, ?_⟩
          rw [decide_eq_true rfl]
          refine iteT ?_
          match as, hml, lv5, nd4, nw4, hL5, hrl, nwLS with
          | a :: b :: as, hml, lv5, nd4, nw4, hL5, hrl, nwLS =>
          refine ⟨_, rfl, LL, _, rfl, .inl (SqL.of hL5), ?_⟩
          rw [hrl]
          refine ⟨rfl, _, rfl, ?_⟩
          have dn : decide (V.int ((i0 :: l0 :: m0).length : Int) = V.int 1) = false := decide_eq_false (fun e => by injection e with e; simp only [List.length_cons] at e; omega)
          rw [dn]
          refine iteF ?_
          obtain ⟨⟨bs, ha5, ei, nb5⟩, ⟨bl, hb5, el, nl5⟩, lvr⟩ := lv5
          have hL5' := hL5
          rw [top_at] at hL5'
          have hbne : bs ≠ [] := fun z => hne (by rw [ei, z]; rfl)
          have hem : (!(bs.map (·.1)).isEmpty) = true := by
            cases bs with
            | nil => exact absurd rfl hbne
            | cons b r => rfl
          refine ⟨_, rfl, _, rfl, LL, _, _, .ref a, rfl, rfl, SqL.of hL5', atI_last _ _, _, .inl ⟨_, SqL.of ha5, rfl⟩, ?_⟩
          rw [hem]
          refine iteF ?_
          have hpop : ((b :: as).reverse.map V.ref ++ [V.ref a])[((b :: as).reverse.map V.ref ++ [V.ref a]).length - 1]? = some (.ref a) := by
            rw [List.length_append]
            simp
          refine ⟨_, rfl, .inl ⟨rfl, _, SqL.of hL5'⟩, LL, _, _, rfl, rfl, hL5', hpop, ?_⟩
          rw [List.dropLast_concat]
          simp only [List.nodup_cons, List.mem_cons, not_or] at nd4
          obtain ⟨⟨q1, q2, q3, q4⟩, ⟨q5, q6, q7⟩, ⟨q8, q9⟩, q10, q11⟩ := nd4
          have hdrop : ((b :: as).reverse.map V.ref ++ [V.ref a]).dropLast = (b :: as).reverse.map V.ref := List.dropLast_concat
          have B0 : ∀ z ∈ (LL :: sd :: b :: as), z ∈ (LL :: sd :: a :: b :: as) := fun z m => by
            simp only [List.mem_cons] at m ⊢
            rcases m with h | h | h | h
            · exact .inl h
            · exact .inr (.inl h)
            · exact .inr (.inr (.inr (.inl h)))
            · exact .inr (.inr (.inr (.inr h)))
          have e6 : Stp (TB K) [] H (upd H5 LL (.lst ((b :: as).reverse.map V.ref))) := e5.mut (.inl nL) hL5' trivial
          have eB : Stp (TB K) (LL :: sd :: a :: b :: as) H5 (upd H5 LL (.lst ((b :: as).reverse.map V.ref))) := .set hL5' trivial List.mem_cons_self
          have hL6 : (upd H5 LL (.lst ((b :: as).reverse.map V.ref))) LL = some (.lst ((b :: as).reverse.map V.ref)) := upd_same
          have hs6 : (upd H5 LL (.lst ((b :: as).reverse.map V.ref))) sd = some (.dK kvs) := by rw [upd_ne (fun e => q1 e.symm)]; exact hs5
          have ha6 : (upd H5 LL (.lst ((b :: as).reverse.map V.ref))) a = some (.lst (bs.map (·.1))) := by rw [upd_ne (fun e => q2 e.symm)]; exact ha5
          have hb6 : (upd H5 LL (.lst ((b :: as).reverse.map V.ref))) b = some (.lst (bl.map (·.1))) := by rw [upd_ne (fun e => q3 e.symm)]; exact hb5
          have nb6 := nb5.keep eB
          have nl6 := nl5.keep eB
          have lvr6 : Lev K (upd H5 LL (.lst ((b :: as).reverse.map V.ref))) (LL :: sd :: a :: b :: as) as m0 := lvr.upd hL5' trivial List.mem_cons_self q4
          generalize upd H5 LL (.lst ((b :: as).reverse.map V.ref)) = H6 at e6 hL6 hs6 ha6 hb6 nb6 nl6 lvr6 ⊢
          have hL6' := hL6
          rw [top_at] at hL6'
          have nbw : Nw H b := nw4 b (List.mem_cons_of_mem _ List.mem_cons_self)
          have nd6 : (LL :: sd :: b :: as).Nodup := by
            simp only [List.nodup_cons, List.mem_cons, not_or]
            exact ⟨⟨q1, q3, q4⟩, ⟨q6, q7⟩, q10, q11⟩
          have nw6 : ∀ z ∈ (b :: as), Nw H z := fun z m => nw4 z (List.mem_cons_of_mem _ m)
          have nl6' : NDs K H6 (LL :: sd :: b :: as) bl := fun z m => (nl6 z m).less B0
          have nb6' : NDs K H6 (LL :: sd :: b :: as) bs := fun z m => (nb6 z m).less B0
          have lvr6' := lvr6.less B0
          have hB6 : ∀ z ∈ (LL :: sd :: b :: as), ∃ o, H6 z = some o ∧ Own o := fun z m => by
            rcases List.mem_cons.mp m with rfl | m
            · exact ⟨_, hL6, trivial⟩
            · rcases List.mem_cons.mp m with rfl | m
              · exact ⟨_, hs6, trivial⟩
              · rcases List.mem_cons.mp m with rfl | m
                · exact ⟨_, hb6, trivial⟩
                · exact lvr6'.obj z m
          have hmlp : ∀ l ∈ (bl.map (·.2) :: m0), l.length ≤ i := fun z m => hml4 z (by rw [← el] at m; exact List.mem_cons_of_mem _ m)
          have hbl : bl.length ≤ i := by
            have := hmlp _ List.mem_cons_self
            rw [List.length_map] at this
            exact this
          refine ⟨_, rfl, _, rfl, LL, _, _, .ref b, rfl, rfl, SqL.of hL6', atI_last _ _, .inl ⟨rfl, _, SqL.of hb6⟩, ?_⟩
          refine ⟨_, rfl, a, _, rfl, .inl (SqL.of ha6), ?_⟩
          rw [List.length_map]
          refine ⟨rfl, _, rfl, ?_⟩
          have db : decide (V.int (bs.length : Int) = V.int 1) = decide (bs.length = 1) := decide_eq_decide.mpr ⟨fun e => by injection e with e; omega, fun e => by rw [e]; rfl⟩
          rw [db]
          by_cases hb1 : bs.length = 1
          · rw [decide_eq_true hb1]
            refine iteT ?_
            obtain ⟨p, rfl⟩ : ∃ p, bs = [p] := List.length_eq_one_iff.mp hb1
            have np := nb6' p List.mem_cons_self
            refine ⟨_, rfl, a, _, 0, p.1, rfl, rfl, SqL.of ha6, atI_nat (j := 0) rfl, b, _, _, rfl, rfl, hb6, by rw [List.length_map, zL]; omega, ?_⟩
            have eb : bra i0 = p.2 := by rw [ei]; rfl
            rw [eb, el] at rn5
            exact RInv.put e6 hL6 hs6 hv4 hk4 (by omega) hmlp hb6 nl6' lvr6' np nd6 nw6 rn5
          · rw [decide_eq_false hb1]
            refine iteF ?_
            have hb2 : 2 ≤ bs.length := by
              have := List.length_pos_iff.mpr hbne
              omega
            refine ⟨_, rfl, fun x dx hx hdx hxd => ?_⟩
            have ex2 : Stp (TB K) [] H6 (upd (upd H6 dx (.own x)) x (.ins (CN K) dx [])) := .of fun z o h => ex2of hx hdx hxd h
            have x7 : (upd (upd H6 dx (.own x)) x (.ins (CN K) dx [])) x = some (.ins (CN K) dx []) := upd_same
            have nbx : NDs K (upd (upd H6 dx (.own x)) x (.ins (CN K) dx [])) (x :: LL :: sd :: b :: as) bs := (nb6'.grow hx).keep ex2.wide
            have hxB : x ∉ (LL :: sd :: b :: as) := fun m => by
              obtain ⟨o, ho, _⟩ := hB6 x m
              rw [hx] at ho
              cases ho
            have gb : goodL (bs.map (·.2)) := by rw [← ei]; exact gi
            have vb : lvL (bs.map (·.2)) < 64 := by rw [← ei]; exact vi
            have all2 : ∀ (z : Addr) (o : HO), H6 z = some o → (upd (upd H6 dx (.own x)) x (.ins (CN K) dx [])) z = some o := fun z o h => ex2of hx hdx hxd h
            generalize upd (upd H6 dx (.own x)) x (.ins (CN K) dx []) = H7 at ex2 x7 nbx all2 ⊢
            refine ⟨x, dx, a, LL :: sd :: b :: as, "", bs, _, rfl, x7, all2 a _ ha6, nbx, fun z m => ?_, hxB, (e6.trans ex2).tabs hT, .inr ⟨rfl, rfl, hb2, gb, vb⟩, fun H8 e8 n8 => ⟨rfl, ?_⟩⟩
            · obtain ⟨o, ho, ow⟩ := hB6 z m
              exact ⟨o, all2 z o ho, ow⟩
            have e68 : Stp (TB K) [] H6 H8 := (ex2.wide.trans e8).drop hx
            refine ⟨b, _, _, rfl, rfl, e68.get0 hb6 trivial, by rw [List.length_map, zL]; omega, ?_⟩
            have eb : bra i0 = group (bs.map (·.2)) := by rw [ei]; exact bra_two (by rw [List.length_map]; exact hb2)
            rw [eb, el] at rn5
            exact RInv.put (e6.trans e68) (e68.get0 hL6 trivial) (e68.get0 hs6 trivial) hv4 hk4 (by omega) hmlp (e68.get0 hb6 trivial) (nl6'.keep e68.wide) (lvr6'.keep e68) n8 nd6 nw6 rn5
        | @nam l0 m0 se nm fr hm0 hnm hse =>
          have d1 : decide (V.str (Tr.leaf nm fr).text = V.str "(") = false := decide_eq_false (fun e => leaf_ne (fr := fr) (c := 40) (z := "(") hnm (by decide +kernel) (by decide) (by injection e))
          have d2 : decide (V.str (Tr.leaf nm fr).text = V.str ")") = false := decide_eq_false (fun e => leaf_ne (fr := fr) (c := 41) (z := ")") hnm (by decide +kernel) (by decide) (by injection e))
          rw [d1]
          refine iteF ?_
          refine ⟨_, rfl, rfl, _, rfl, ?_⟩
          rw [d2]
          refine iteF ?_
          refine ⟨_, rfl, nm, fr, rfl, hnm, ?_⟩
          have hn8 := (isNm_len hnm).2
          refine ⟨_, rfl, nm, rfl, by omega, fun H6 e56 => ?_⟩
          rw [hnm]
          refine ⟨_, rfl, ?_⟩
          refine iteF ?_
          have hL6 := e56.get0 hL5 trivial
          have hs6 := e56.get0 hs5 trivial
          have lv6 := lv5.keep e56
          have e6 := e5.trans e56
          have hvn := hv4 nm hse
          refine ⟨_, rfl, _, rfl, sd, _, rfl, DGet.k (k := .inr nm) hs6, _, rfl, ?_⟩
          rw [hvn]
          refine iteF ?_
          refine ⟨_, rfl, _, rfl, sd, _, rfl, DPut.k (k := .inr nm) hs6 (by rw [zL]; omega), ?_⟩
          match as, hml, lv6, nd4, nw4, hL6, hrl, nwLS with
          | b :: as, hml, lv6, nd4, nw4, hL6, hrl, nwLS =>
          obtain ⟨⟨bl, hb6, el, nl6⟩, lvr6⟩ := lv6
          have hnd := nd4
          simp only [List.nodup_cons, List.mem_cons, not_or] at hnd
          obtain ⟨⟨q1, q2, q3⟩, ⟨q4, q5⟩, q6, q7⟩ := hnd
          have msd : sd ∈ (LL :: sd :: b :: as) := List.mem_cons_of_mem _ List.mem_cons_self
          have e7 : Stp (TB K) [] H (upd H6 sd (.dK (putK kvs (.inr nm) (.bl true)))) := e6.mut (.inl nS) hs6 trivial
          have eB : Stp (TB K) (LL :: sd :: b :: as) H6 (upd H6 sd (.dK (putK kvs (.inr nm) (.bl true)))) := .set hs6 trivial msd
          have hL7 : (upd H6 sd (.dK (putK kvs (.inr nm) (.bl true)))) LL = some (.lst ((b :: as).reverse.map V.ref)) := by rw [upd_ne q1]; exact hL6
          have hs7 : (upd H6 sd (.dK (putK kvs (.inr nm) (.bl true)))) sd = some (.dK (putK kvs (.inr nm) (.bl true))) := upd_same
          have hb7 : (upd H6 sd (.dK (putK kvs (.inr nm) (.bl true)))) b = some (.lst (bl.map (·.1))) := by rw [upd_ne (fun e => q4 e.symm)]; exact hb6
          have nl7 := nl6.keep eB
          have lvr7 : Lev K (upd H6 sd (.dK (putK kvs (.inr nm) (.bl true)))) (LL :: sd :: b :: as) as m0 := lvr6.upd hs6 trivial msd q5
          have hv7 : ∀ x, x ∉ nm :: se → valV (putK kvs (.inr nm) (.bl true)) (.inr x) = none := fun x hx => by
            rw [valV_put, if_neg (fun e => hx (by injection e with e; rw [e]; exact List.mem_cons_self))]
            exact hv4 x fun m => hx (List.mem_cons_of_mem _ m)
          have hk7 : (putK kvs (.inr nm) (.bl true)).length ≤ kvs.length + 1 := length_putK kvs (.inr nm) (V.bl true)
          generalize putK kvs (.inr nm) (.bl true) = kv7 at hs7 hv7 hk7 e7 eB hL7 hb7 nl7 lvr7 ⊢
          generalize upd H6 sd (.dK kv7) = H7 at e7 eB hL7 hs7 hb7 nl7 lvr7 ⊢
          have hL7' := hL7
          rw [top_at] at hL7'
          have hB7 : ∀ z ∈ (LL :: sd :: b :: as), ∃ o, H7 z = some o ∧ Own o := fun z m => by
            rcases List.mem_cons.mp m with rfl | m
            · exact ⟨_, hL7, trivial⟩
            · rcases List.mem_cons.mp m with rfl | m
              · exact ⟨_, hs7, trivial⟩
              · rcases List.mem_cons.mp m with rfl | m
                · exact ⟨_, hb7, trivial⟩
                · exact lvr7.obj z m
          have hmlp : ∀ l ∈ (bl.map (·.2) :: m0), l.length ≤ i := fun z m => hml4 z (by rw [← el] at m; exact m)
          have hbl : bl.length ≤ i := by
            have := hmlp _ List.mem_cons_self
            rw [List.length_map] at this
            exact this
          refine ⟨_, rfl, _, rfl, LL, _, _, .ref b, rfl, rfl, SqL.of hL7', atI_last _ _, .inl ⟨rfl, _, SqL.of hb7⟩, ?_⟩
          refine ⟨_, rfl, (by show 0 ≤ sizeLine; decide), fun le hle => ?_⟩
          have el8 : Stp (TB K) [] H7 (upd H7 le (.lst [])) := .new hle
          have le8 : (upd H7 le (.lst [])) le = some (.lst []) := upd_same
          have all1 : ∀ (z : Addr) (o : HO), H7 z = some o → (upd H7 le (.lst [])) z = some o := fun z o h => by rw [upd_ne (ne_of_none h hle)]; exact h
          generalize upd H7 le (.lst []) = H8 at el8 le8 all1 ⊢
          intro x dx hx hdx hxd
          have ex2 : Stp (TB K) [] H8 (upd (upd H8 dx (.own x)) x (.ins (CN K) dx [])) := .of fun z o h => ex2of hx hdx hxd h
          have x9 : (upd (upd H8 dx (.own x)) x (.ins (CN K) dx [])) x = some (.ins (CN K) dx []) := upd_same
          have all2 : ∀ (z : Addr) (o : HO), H8 z = some o → (upd (upd H8 dx (.own x)) x (.ins (CN K) dx [])) z = some o := fun z o h => ex2of hx hdx hxd h
          generalize upd (upd H8 dx (.own x)) x (.ins (CN K) dx []) = H9 at ex2 x9 all2 ⊢
          have hxB : x ∉ (LL :: sd :: b :: as) := fun m => by
            obtain ⟨o, ho, _⟩ := hB7 x m
            have := all1 x o ho
            rw [hx] at this
            cases this
          refine ⟨x, dx, le, LL :: sd :: b :: as, _, [], .leaf nm fr, rfl, x9, all2 le _ le8, (fun z m => by cases m), fun z m => ?_, hxB, ((e7.trans el8).trans ex2).tabs hT, .inl ⟨nm, fr, rfl, rfl, rfl, hnm⟩, fun H10 e10 n10 => ⟨rfl, ?_⟩⟩
          · obtain ⟨o, ho, ow⟩ := hB7 z m
            exact ⟨o, all2 z o (all1 z o ho), ow⟩
          have e810 : Stp (TB K) [] H8 H10 := (ex2.wide.trans e10).drop hx
          have e710 := el8.trans e810
          refine ⟨b, _, _, rfl, rfl, e710.get0 hb7 trivial, by rw [List.length_map, zL]; omega, ?_⟩
          rw [el] at rn5
          exact RInv.put (e7.trans e710) (e710.get0 hL7 trivial) (e710.get0 hs7 trivial) hv7 (by simp only [List.length_cons]; omega) (by omega) hmlp (e710.get0 hb7 trivial) (nl7.keep e710.wide) (lvr7.keep e710) n10 nd4 nw4 rn5
      · rw [decide_eq_false h1]
        refine iteF ?_
        refine iteF ?_
        clear h1 one dz
        refine ⟨_, rfl, rfl, _, rfl, ?_⟩
        have nwLS : ∀ z ∈ (LL :: sd :: as), Nw H z := fun z m => by
          rcases List.mem_cons.mp m with rfl | m
          · exact nL
          · rcases List.mem_cons.mp m with rfl | m
            · exact nS
            · exact nw4 z m
        cases st with
        | @opn m se _ h8 _ =>
          rw [decide_eq_true rfl]
          refine iteT ?_
          refine ⟨_, rfl, LL, _, rfl, .inl (SqL.of hL5), ?_⟩
          rw [hrl]
          refine ⟨_, _, rfl, rfl, _, rfl, ?_⟩
          rw [decide_eq_false (by omega)]
          refine iteF ?_
          refine ⟨_, rfl, .inl ⟨rfl, _, SqL.of hL5⟩, (by show 0 ≤ sizeLine; decide), fun a ha => ?_⟩
          have ea : Stp (TB K) [] H5 (upd H5 a (.lst [])) := .new ha
          have hL6 := ea.get0 hL5 trivial
          have hs6 := ea.get0 hs5 trivial
          have lv6 := (lv5.keep ea)
          have hB6 : ∀ z ∈ (LL :: sd :: as), ∃ o, H5 z = some o ∧ Own o := fun z m => by
            rcases List.mem_cons.mp m with rfl | m
            · exact ⟨_, hL5, trivial⟩
            · rcases List.mem_cons.mp m with rfl | m
              · exact ⟨_, hs5, trivial⟩
              · exact lv5.obj z m
          have haB : a ∉ (LL :: sd :: as) := fun m => by
            obtain ⟨o, ho, _⟩ := hB6 a m
            rw [ha] at ho
            cases ho
          have e6 := e5.trans ea
          have na : Nw H a := (Nw.of ha).back e5
          have a6 : (upd H5 a (.lst [])) a = some (.lst []) := upd_same
          have lv6b : Lev K (upd H5 a (.lst [])) (a :: LL :: sd :: as) as m := (lv5.grow ha).keepB (.of fun z o h => by rw [upd_ne (ne_of_none h ha)]; exact h)
          generalize upd H5 a (.lst []) = H6 at hL6 hs6 lv6 e6 a6 lv6b ⊢
          refine ⟨LL, _, _, rfl, rfl, hL6, by rw [hrl, zL]; omega, ?_⟩
          have nd7 : (LL :: sd :: a :: as).Nodup := by
            simp only [List.nodup_cons, List.mem_cons, not_or] at nd4 haB ⊢
            exact ⟨⟨nd4.1.1, fun e => haB.1 e.symm, nd4.1.2⟩, ⟨fun e => haB.2.1 e.symm, nd4.2.1⟩, haB.2.2, nd4.2.2⟩
          have sub : ∀ z ∈ (LL :: sd :: a :: as), z ∈ (a :: LL :: sd :: as) := fun z m => by
            simp only [List.mem_cons] at m ⊢
            rcases m with h | h | h | h
            · exact .inr (.inl h)
            · exact .inr (.inr (.inl h))
            · exact .inl h
            · exact .inr (.inr (.inr h))
          have hLa : LL ∉ (a :: as) := fun m => by
            rcases List.mem_cons.mp m with e | m
            · exact haB (by rw [← e]; exact List.mem_cons_self)
            · exact (List.nodup_cons.mp nd4).1 (List.mem_cons_of_mem _ m)
          have hLs : LL ≠ sd := fun e => (List.nodup_cons.mp nd4).1 (by rw [e]; exact List.mem_cons_self)
          have hLa1 : a ≠ LL := fun e => haB (by rw [e]; exact List.mem_cons_self)
          have lv7 : Lev K H6 (LL :: sd :: a :: as) (a :: as) ([] :: m) := ⟨⟨[], a6, rfl, fun b m => by cases m⟩, lv6b.less sub⟩
          refine ⟨a :: as, [] :: m, se, kvs, _, _, _, _, rfl, e6.mut (.inl nL) hL6 trivial, ?_, ?_, hv4, hk4, by omega, (fun l m => by
            rcases List.mem_cons.mp m with rfl | m
            · exact Nat.zero_le _
            · exact Nat.le_succ_of_le (hml4 l m)), lv7.upd hL6 trivial List.mem_cons_self hLa, nd7, ?_, rn5⟩
          · rw [upd_same, top_at]
          · rw [upd_ne (fun e => hLs e.symm)]
            exact hs6
          · intro z m
            rcases List.mem_cons.mp m with rfl | m
            · exact na
            · exact nw4 z m
        | @cls i0 l0 m0 se hne gi vi =>
          have d1 : decide (V.str ")" = V.str "(") = false := by decide +kernel
          rw [d1]
          refine iteF ?_
          refine ⟨_, rfl, rfl, _, rfl, ?_⟩
          rw [decide_eq_true rfl]
          refine iteT ?_
          match as, hml, lv5, nd4, nw4, hL5, hrl, nwLS with
          | a :: b :: as, hml, lv5, nd4, nw4, hL5, hrl, nwLS =>
          refine ⟨_, rfl, LL, _, rfl, .inl (SqL.of hL5), ?_⟩
          rw [hrl]
          refine ⟨rfl, _, rfl, ?_⟩
          have dn : decide (V.int ((i0 :: l0 :: m0).length : Int) = V.int 1) = false := decide_eq_false (fun e => by injection e with e; simp only [List.length_cons] at e; omega)
          rw [dn]
          refine iteF ?_
          obtain ⟨⟨bs, ha5, ei, nb5⟩, ⟨bl, hb5, el, nl5⟩, lvr⟩ := lv5
          have hL5' := hL5
          rw [top_at] at hL5'
          have hbne : bs ≠ [] := fun z => hne (by rw [ei, z]; rfl)
          have hem : (!(bs.map (·.1)).isEmpty) = true := by
            cases bs with
            | nil => exact absurd rfl hbne
            | cons b r => rfl
          refine ⟨_, rfl, _, rfl, LL, _, _, .ref a, rfl, rfl, SqL.of hL5', atI_last _ _, _, .inl ⟨_, SqL.of ha5, rfl⟩, ?_⟩
          rw [hem]
          refine iteF ?_
          have hpop : ((b :: as).reverse.map V.ref ++ [V.ref a])[((b :: as).reverse.map V.ref ++ [V.ref a]).length - 1]? = some (.ref a) := by
            rw [List.length_append]
            simp
          refine ⟨_, rfl, .inl ⟨rfl, _, SqL.of hL5'⟩, LL, _, _, rfl, rfl, hL5', hpop, ?_⟩
          rw [List.dropLast_concat]
          simp only [List.nodup_cons, List.mem_cons, not_or] at nd4
          obtain ⟨⟨q1, q2, q3, q4⟩, ⟨q5, q6, q7⟩, ⟨q8, q9⟩, q10, q11⟩ := nd4
          have hdrop : ((b :: as).reverse.map V.ref ++ [V.ref a]).dropLast = (b :: as).reverse.map V.ref := List.dropLast_concat
          have B0 : ∀ z ∈ (LL :: sd :: b :: as), z ∈ (LL :: sd :: a :: b :: as) := fun z m => by
            simp only [List.mem_cons] at m ⊢
            rcases m with h | h | h | h
            · exact .inl h
            · exact .inr (.inl h)
            · exact .inr (.inr (.inr (.inl h)))
            · exact .inr (.inr (.inr (.inr h)))
          have e6 : Stp (TB K) [] H (upd H5 LL (.lst ((b :: as).reverse.map V.ref))) := e5.mut (.inl nL) hL5' trivial
          have eB : Stp (TB K) (LL :: sd :: a :: b :: as) H5 (upd H5 LL (.lst ((b :: as).reverse.map V.ref))) := .set hL5' trivial List.mem_cons_self
          have hL6 : (upd H5 LL (.lst ((b :: as).reverse.map V.ref))) LL = some (.lst ((b :: as).reverse.map V.ref)) := upd_same
          have hs6 : (upd H5 LL (.lst ((b :: as).reverse.map V.ref))) sd = some (.dK kvs) := by rw [upd_ne (fun e => q1 e.symm)]; exact hs5
          have ha6 : (upd H5 LL (.lst ((b :: as).reverse.map V.ref))) a = some (.lst (bs.map (·.1))) := by rw [upd_ne (fun e => q2 e.symm)]; exact ha5
          have hb6 : (upd H5 LL (.lst ((b :: as).reverse.map V.ref))) b = some (.lst (bl.map (·.1))) := by rw [upd_ne (fun e => q3 e.symm)]; exact hb5
          have nb6 := nb5.keep eB
          have nl6 := nl5.keep eB
          have lvr6 : Lev K (upd H5 LL (.lst ((b :: as).reverse.map V.ref))) (LL :: sd :: a :: b :: as) as m0 := lvr.upd hL5' trivial List.mem_cons_self q4
          generalize upd H5 LL (.lst ((b :: as).reverse.map V.ref)) = H6 at e6 hL6 hs6 ha6 hb6 nb6 nl6 lvr6 ⊢
          have hL6' := hL6
          rw [top_at] at hL6'
          have nbw : Nw H b := nw4 b (List.mem_cons_of_mem _ List.mem_cons_self)
          have nd6 : (LL :: sd :: b :: as).Nodup := by
            simp only [List.nodup_cons, List.mem_cons, not_or]
            exact ⟨⟨q1, q3, q4⟩, ⟨q6, q7⟩, q10, q11⟩
          have nw6 : ∀ z ∈ (b :: as), Nw H z := fun z m => nw4 z (List.mem_cons_of_mem _ m)
          have nl6' : NDs K H6 (LL :: sd :: b :: as) bl := fun z m => (nl6 z m).less B0
          have nb6' : NDs K H6 (LL :: sd :: b :: as) bs := fun z m => (nb6 z m).less B0
          have lvr6' := lvr6.less B0
          have hB6 : ∀ z ∈ (LL :: sd :: b :: as), ∃ o, H6 z = some o ∧ Own o := fun z m => by
            rcases List.mem_cons.mp m with rfl | m
            · exact ⟨_, hL6, trivial⟩
            · rcases List.mem_cons.mp m with rfl | m
              · exact ⟨_, hs6, trivial⟩
              · rcases List.mem_cons.mp m with rfl | m
                · exact ⟨_, hb6, trivial⟩
                · exact lvr6'.obj z m
          have hmlp : ∀ l ∈ (bl.map (·.2) :: m0), l.length ≤ i := fun z m => hml4 z (by rw [← el] at m; exact List.mem_cons_of_mem _ m)
          have hbl : bl.length ≤ i := by
            have := hmlp _ List.mem_cons_self
            rw [List.length_map] at this
            exact this
          refine ⟨_, rfl, _, rfl, LL, _, _, .ref b, rfl, rfl, SqL.of hL6', atI_last _ _, .inl ⟨rfl, _, SqL.of hb6⟩, ?_⟩
          refine ⟨_, rfl, a, _, rfl, .inl (SqL.of ha6), ?_⟩
          rw [List.length_map]
          refine ⟨rfl, _, rfl, ?_⟩
          have db : decide (V.int (bs.length : Int) = V.int 1) = decide (bs.length = 1) := decide_eq_decide.mpr ⟨fun e => by injection e with e; omega, fun e => by rw [e]; rfl⟩
          rw [db]
          by_cases hb1 : bs.length = 1
          · rw [decide_eq_true hb1]
            refine iteT ?_
            obtain ⟨p, rfl⟩ : ∃ p, bs = [p] := List.length_eq_one_iff.mp hb1
            have np := nb6' p List.mem_cons_self
            refine ⟨_, rfl, a, _, 0, p.1, rfl, rfl, SqL.of ha6, atI_nat (j := 0) rfl, b, _, _, rfl, rfl, hb6, by rw [List.length_map, zL]; omega, ?_⟩
            have eb : bra i0 = p.2 := by rw [ei]; rfl
            rw [eb, el] at rn5
            exact RInv.put e6 hL6 hs6 hv4 hk4 (by omega) hmlp hb6 nl6' lvr6' np nd6 nw6 rn5
          · rw [decide_eq_false hb1]
            refine iteF ?_
            have hb2 : 2 ≤ bs.length := by
              have := List.length_pos_iff.mpr hbne
              omega
            refine ⟨_, rfl, fun x dx hx hdx hxd => ?_⟩
            have ex2 : Stp (TB K) [] H6 (upd (upd H6 dx (.own x)) x (.ins (CN K) dx [])) := .of fun z o h => ex2of hx hdx hxd h
            have x7 : (upd (upd H6 dx (.own x)) x (.ins (CN K) dx [])) x = some (.ins (CN K) dx []) := upd_same
            have nbx : NDs K (upd (upd H6 dx (.own x)) x (.ins (CN K) dx [])) (x :: LL :: sd :: b :: as) bs := (nb6'.grow hx).keep ex2.wide
            have hxB : x ∉ (LL :: sd :: b :: as) := fun m => by
              obtain ⟨o, ho, _⟩ := hB6 x m
              rw [hx] at ho
              cases ho
            have gb : goodL (bs.map (·.2)) := by rw [← ei]; exact gi
            have vb : lvL (bs.map (·.2)) < 64 := by rw [← ei]; exact vi
            have all2 : ∀ (z : Addr) (o : HO), H6 z = some o → (upd (upd H6 dx (.own x)) x (.ins (CN K) dx [])) z = some o := fun z o h => ex2of hx hdx hxd h
            generalize upd (upd H6 dx (.own x)) x (.ins (CN K) dx []) = H7 at ex2 x7 nbx all2 ⊢
            refine ⟨x, dx, a, LL :: sd :: b :: as, "", bs, _, rfl, x7, all2 a _ ha6, nbx, fun z m => ?_, hxB, (e6.trans ex2).tabs hT, .inr ⟨rfl, rfl, hb2, gb, vb⟩, fun H8 e8 n8 => ⟨rfl, ?_⟩⟩
            · obtain ⟨o, ho, ow⟩ := hB6 z m
              exact ⟨o, all2 z o ho, ow⟩
            have e68 : Stp (TB K) [] H6 H8 := (ex2.wide.trans e8).drop hx
            refine ⟨b, _, _, rfl, rfl, e68.get0 hb6 trivial, by rw [List.length_map, zL]; omega, ?_⟩
            have eb : bra i0 = group (bs.map (·.2)) := by rw [ei]; exact bra_two (by rw [List.length_map]; exact hb2)
            rw [eb, el] at rn5
            exact RInv.put (e6.trans e68) (e68.get0 hL6 trivial) (e68.get0 hs6 trivial) hv4 hk4 (by omega) hmlp (e68.get0 hb6 trivial) (nl6'.keep e68.wide) (lvr6'.keep e68) n8 nd6 nw6 rn5
        | @nam l0 m0 se nm fr hm0 hnm hse =>
          have d1 : decide (V.str (Tr.leaf nm fr).text = V.str "(") = false := decide_eq_false (fun e => leaf_ne (fr := fr) (c := 40) (z := "(") hnm (by decide +kernel) (by decide) (by injection e))
          have d2 : decide (V.str (Tr.leaf nm fr).text = V.str ")") = false := decide_eq_false (fun e => leaf_ne (fr := fr) (c := 41) (z := ")") hnm (by decide +kernel) (by decide) (by injection e))
          rw [d1]
          refine iteF ?_
          refine ⟨_, rfl, rfl, _, rfl, ?_⟩
          rw [d2]
          refine iteF ?_
          refine ⟨_, rfl, nm, fr, rfl, hnm, ?_⟩
          have hn8 := (isNm_len hnm).2
          refine ⟨_, rfl, nm, rfl, by omega, fun H6 e56 => ?_⟩
          rw [hnm]
          refine ⟨_, rfl, ?_⟩
          refine iteF ?_
          have hL6 := e56.get0 hL5 trivial
          have hs6 := e56.get0 hs5 trivial
          have lv6 := lv5.keep e56
          have e6 := e5.trans e56
          have hvn := hv4 nm hse
          refine ⟨_, rfl, _, rfl, sd, _, rfl, DGet.k (k := .inr nm) hs6, _, rfl, ?_⟩
          rw [hvn]
          refine iteF ?_
          refine ⟨_, rfl, _, rfl, sd, _, rfl, DPut.k (k := .inr nm) hs6 (by rw [zL]; omega), ?_⟩
          match as, hml, lv6, nd4, nw4, hL6, hrl, nwLS with
          | b :: as, hml, lv6, nd4, nw4, hL6, hrl, nwLS =>
          obtain ⟨⟨bl, hb6, el, nl6⟩, lvr6⟩ := lv6
          have hnd := nd4
          simp only [List.nodup_cons, List.mem_cons, not_or] at hnd
          obtain ⟨⟨q1, q2, q3⟩, ⟨q4, q5⟩, q6, q7⟩ := hnd
          have msd : sd ∈ (LL :: sd :: b :: as) := List.mem_cons_of_mem _ List.mem_cons_self
          have e7 : Stp (TB K) [] H (upd H6 sd (.dK (putK kvs (.inr nm) (.bl true)))) := e6.mut (.inl nS) hs6 trivial
          have eB : Stp (TB K) (LL :: sd :: b :: as) H6 (upd H6 sd (.dK (putK kvs (.inr nm) (.bl true)))) := .set hs6 trivial msd
          have hL7 : (upd H6 sd (.dK (putK kvs (.inr nm) (.bl true)))) LL = some (.lst ((b :: as).reverse.map V.ref)) := by rw [upd_ne q1]; exact hL6
          have hs7 : (upd H6 sd (.dK (putK kvs (.inr nm) (.bl true)))) sd = some (.dK (putK kvs (.inr nm) (.bl true))) := upd_same
          have hb7 : (upd H6 sd (.dK (putK kvs (.inr nm) (.bl true)))) b = some (.lst (bl.map (·.1))) := by rw [upd_ne (fun e => q4 e.symm)]; exact hb6
          have nl7 := nl6.keep eB
          have lvr7 : Lev K (upd H6 sd (.dK (putK kvs (.inr nm) (.bl true)))) (LL :: sd :: b :: as) as m0 := lvr6.upd hs6 trivial msd q5
          have hv7 : ∀ x, x ∉ nm :: se → valV (putK kvs (.inr nm) (.bl true)) (.inr x) = none := fun x hx => by
            rw [valV_put, if_neg (fun e => hx (by injection e with e; rw [e]; exact List.mem_cons_self))]
            exact hv4 x fun m => hx (List.mem_cons_of_mem _ m)
          have hk7 : (putK kvs (.inr nm) (.bl true)).length ≤ kvs.length + 1 := length_putK kvs (.inr nm) (V.bl true)
          generalize putK kvs (.inr nm) (.bl true) = kv7 at hs7 hv7 hk7 e7 eB hL7 hb7 nl7 lvr7 ⊢
          generalize upd H6 sd (.dK kv7) = H7 at e7 eB hL7 hs7 hb7 nl7 lvr7 ⊢
          have hL7' := hL7
          rw [top_at] at hL7'
          have hB7 : ∀ z ∈ (LL :: sd :: b :: as), ∃ o, H7 z = some o ∧ Own o := fun z m => by
            rcases List.mem_cons.mp m with rfl | m
            · exact ⟨_, hL7, trivial⟩
            · rcases List.mem_cons.mp m with rfl | m
              · exact ⟨_, hs7, trivial⟩
              · rcases List.mem_cons.mp m with rfl | m
                · exact ⟨_, hb7, trivial⟩
                · exact lvr7.obj z m
          have hmlp : ∀ l ∈ (bl.map (·.2) :: m0), l.length ≤ i := fun z m => hml4 z (by rw [← el] at m; exact m)
          have hbl : bl.length ≤ i := by
            have := hmlp _ List.mem_cons_self
            rw [List.length_map] at this
            exact this
          refine ⟨_, rfl, _, rfl, LL, _, _, .ref b, rfl, rfl, SqL.of hL7', atI_last _ _, .inl ⟨rfl, _, SqL.of hb7⟩, ?_⟩
          refine ⟨_, rfl, (by show 0 ≤ sizeLine; decide), fun le hle => ?_⟩
          have el8 : Stp (TB K) [] H7 (upd H7 le (.lst [])) := .new hle
          have le8 : (upd H7 le (.lst [])) le = some (.lst []) := upd_same
          have all1 : ∀ (z : Addr) (o : HO), H7 z = some o → (upd H7 le (.lst [])) z = some o := fun z o h => by rw [upd_ne (ne_of_none h hle)]; exact h
          generalize upd H7 le (.lst []) = H8 at el8 le8 all1 ⊢
          intro x dx hx hdx hxd
          have ex2 : Stp (TB K) [] H8 (upd (upd H8 dx (.own x)) x (.ins (CN K) dx [])) := .of fun z o h => ex2of hx hdx hxd h
          have x9 : (upd (upd H8 dx (.own x)) x (.ins (CN K) dx [])) x = some (.ins (CN K) dx []) := upd_same
          have all2 : ∀ (z : Addr) (o : HO), H8 z = some o → (upd (upd H8 dx (.own x)) x (.ins (CN K) dx [])) z = some o := fun z o h => ex2of hx hdx hxd h
          generalize upd (upd H8 dx (.own x)) x (.ins (CN K) dx []) = H9 at ex2 x9 all2 ⊢
          have hxB : x ∉ (LL :: sd :: b :: as) := fun m => by
            obtain ⟨o, ho, _⟩ := hB7 x m
            have := all1 x o ho
            rw [hx] at this
            cases this
          refine ⟨x, dx, le, LL :: sd :: b :: as, _, [], .leaf nm fr, rfl, x9, all2 le _ le8, (fun z m => by cases m), fun z m => ?_, hxB, ((e7.trans el8).trans ex2).tabs hT, .inl ⟨nm, fr, rfl, rfl, rfl, hnm⟩, fun H10 e10 n10 => ⟨rfl, ?_⟩⟩
          · obtain ⟨o, ho, ow⟩ := hB7 z m
            exact ⟨o, all2 z o (all1 z o ho), ow⟩
          have e810 : Stp (TB K) [] H8 H10 := (ex2.wide.trans e10).drop hx
          have e710 := el8.trans e810
          refine ⟨b, _, _, rfl, rfl, e710.get0 hb7 trivial, by rw [List.length_map, zL]; omega, ?_⟩
          rw [el] at rn5
          exact RInv.put (e7.trans e710) (e710.get0 hL7 trivial) (e710.get0 hs7 trivial) hv7 (by simp only [List.length_cons]; omega) (by omega) hmlp (e710.get0 hb7 trivial) (nl7.keep e710.wide) (lvr7.keep e710) n10 nd4 nw4 rn5
    · rintro σ H1 ⟨as, m, se, kvs, p3, p4, p5, p6, rfl, e4, hL4, hs4, hv4, hk4, hk4i, hml4, lv4, nd4, nw4, rn4⟩
      rw [hlm, List.drop_length] at rn4
      obtain ⟨em, es⟩ := rn4
      subst em
      have hml := lv4.len
      obtain ⟨a, rfl⟩ : ∃ a, as = [a] := List.length_eq_one_iff.mp hml
      obtain ⟨⟨bs, ha4, eb, nb4⟩, _⟩ := lv4
      obtain ⟨p, rfl⟩ : ∃ p, bs = [p] := List.length_eq_one_iff.mp (by
        have := congrArg List.length eb
        rw [List.length_map] at this
        exact this.symm)
      have ep : p.2 = S.val := by
        injection eb with eb _
        exact eb.symm
      have np := nb4 p List.mem_cons_self
      refine ⟨_, rfl, LL, _, rfl, .inl (SqL.of hL4), _, _, rfl, rfl, _, rfl, ?_⟩
      refine iteF ?_
      refine ⟨_, rfl, LL, _, 0, .ref a, rfl, rfl, SqL.of hL4, atI_nat (j := 0) rfl, _, .inl ⟨_, SqL.of ha4, rfl⟩, ?_⟩
      refine iteF ?_
      refine ⟨_, rfl, sd, _, rfl, hs4, _, _, rfl, rfl, _, rfl, ?_⟩
      rw [decide_eq_false (by omega)]
      refine iteF ?_
      refine ⟨_, rfl, LL, _, 0, .ref a, rfl, rfl, SqL.of hL4, atI_nat (j := 0) rfl, a, _, 0, p.1, rfl, rfl, SqL.of ha4, atI_nat (j := 0) rfl, k p.1 H1 e4 ?_⟩
      rw [← ep]
      exact np.less fun z m => by cases m) (g_read_words T)
end
end K3

/-! Pages and forms as written shapes. -/
namespace LB
open PySem PySem.Spec PyProof.Rows L2 LamX LK
/-! ### pages -/
def Sx.page (S : Sx) : Str := Txt.join " " S.words
theorem words_ne : ∀ S : Sx, S.words ≠ []
  | .leaf _ _ => by simp [Sx.words]
  | .br _ => by simp [Sx.words]
mutual
theorem words_free : ∀ {S : Sx}, S.ok → ∀ w ∈ S.words, 32 ∉ w.cps.toList ∧ w.length ≤ 9
  | .leaf nm fr, h, w, m => by
    have e : w = (Tr.leaf nm fr).text := List.mem_singleton.mp m
    subst e
    have h1 : isNm nm = true := h
    have h8 := (isNm_len h1).2
    obtain ⟨_, _, _, _, ha⟩ := isNm_cps h1
    have hn : 32 ∉ nm.cps.toList := fun q => by
      rcases ha 32 q with q | q
      · have := letters_lt q; omega
      · have := digits_lt q; omega
    cases fr with
    | true => exact ⟨hn, Nat.le_succ_of_le h8⟩
    | false =>
      refine ⟨?_, ?_⟩
      · show 32 ∉ (nm ++ "|" : Str).cps.toList
        rw [cpsA, bar_cps, List.mem_append]
        rintro (q | q)
        · exact hn q
        · simp at q
      · show (nm ++ "|" : Str).length ≤ 9
        rw [lenA]
        have : ("|" : Str).length = 1 := by decide
        omega
  | .br xs, h, w, m => by
    rcases List.mem_cons.mp m with rfl | m
    · exact ⟨by decide +kernel, by decide⟩
    · rcases List.mem_append.mp m with m | m
      · exact wordsL_free h.2 w m
      · rw [List.mem_singleton.mp m]
        exact ⟨by decide +kernel, by decide⟩
theorem wordsL_free : ∀ {xs : List Sx}, okL xs → ∀ w ∈ wordsL xs, 32 ∉ w.cps.toList ∧ w.length ≤ 9
  | [], _, w, m => by simp [wordsL] at m
  | x :: xs, h, w, m => by
    unfold wordsL at m
    rcases List.mem_append.mp m with m | m
    · exact words_free h.1 w m
    · exact wordsL_free h.2 w m
end
theorem page_split {S : Sx} (h : S.ok) : Txt.split S.page " " = S.words :=
  TL.split_join (y := " ") (s := 32) (S := []) (by decide +kernel) (by decide +kernel) (words_ne S) fun p m => (words_free h p m).1
theorem sum_le {k : Nat} : ∀ {ws : List Str}, (∀ w ∈ ws, w.length ≤ k) → (ws.map (·.length)).sum ≤ k * ws.length
  | [], _ => by simp
  | w :: ws, h => by
    have a := h w (by simp)
    have b := sum_le fun u m => h u (List.mem_cons_of_mem _ m)
    simp only [List.map_cons, List.sum_cons, List.length_cons, Nat.mul_succ]
    omega
theorem page_len {S : Sx} (h : S.ok) (hl : S.words.length ≤ 1000) : S.page.length ≤ 10000 := by
  have h1 := lenJ " " S.words
  have h2 := sum_le fun w m => (words_free h w m).2
  have e : (" " : Str).length = 1 := by decide
  rw [e] at h1
  unfold Sx.page
  omega
/-! ### joins -/
theorem join_cons (s x : Str) {r : List Str} (h : r ≠ []) : Str.join s (x :: r) = x ++ s ++ Str.join s r := by
  cases r with
  | nil => exact absurd rfl h
  | cons y r => rfl
theorem strA (a b c : Str) : a ++ b ++ c = a ++ (b ++ c) := str_ext (by simp only [cpsA, List.append_assoc])
theorem join_append (s : Str) : ∀ {xs ys : List Str}, xs ≠ [] → ys ≠ [] → Str.join s (xs ++ ys) = Str.join s xs ++ s ++ Str.join s ys
  | [], _, h, _ => absurd rfl h
  | [x], ys, _, h => join_cons s x h
  | x :: y :: r, ys, _, h => by
    have ih := join_append s (xs := y :: r) (ys := ys) (by simp) h
    rw [List.cons_append, join_cons s x (by simp), ih, join_cons s x (by simp)]
    simp only [strA]
theorem join_flat (s : Str) : ∀ {wss : List (List Str)}, (∀ ws ∈ wss, ws ≠ []) → Str.join s (wss.map (Str.join s)) = Str.join s wss.flatten
  | [], _ => rfl
  | [ws], _ => by simp [Str.join]
  | ws :: vs :: r, h => by
    have ih := join_flat s (wss := vs :: r) fun w m => h w (List.mem_cons_of_mem _ m)
    have hf : (vs :: r).flatten ≠ [] := fun z => h vs (by simp) (List.flatten_eq_nil_iff.mp z vs (by simp))
    have e0 : (ws :: vs :: r).flatten = ws ++ (vs :: r).flatten := List.flatten_cons
    rw [List.map_cons, join_cons s _ (by simp), ih, e0, join_append s (h ws (by simp)) hf]
theorem wordsL_flat : ∀ xs : List Sx, wordsL xs = (xs.map Sx.words).flatten
  | [] => rfl
  | x :: xs => by rw [wordsL, wordsL_flat xs]; rfl
theorem wordsL_ne {xs : List Sx} (h : xs ≠ []) : wordsL xs ≠ [] := by
  cases xs with
  | nil => exact absurd rfl h
  | cons x xs =>
    unfold wordsL
    intro z
    exact words_ne x (List.append_eq_nil_iff.mp z).1
/-- brackets around some pages -/
theorem page_br {xs : List Sx} (h : xs ≠ []) : ("( " ++ Txt.join " " (xs.map Sx.page) ++ " )" : Str) = (Sx.br xs).page := by
  unfold Sx.page
  show _ = Txt.join " " ((("(" : Str)) :: (wordsL xs ++ [((")" : Str))]))
  rw [joinE, joinE, join_cons _ _ (by simp), join_append _ (wordsL_ne h) (by simp), wordsL_flat]
  have e : (xs.map fun S => Txt.join " " S.words) = (xs.map Sx.words).map (Str.join " ") := by
    rw [List.map_map]
    exact List.map_congr_left fun S _ => joinE _ _
  rw [e, join_flat _ fun ws m => by
    obtain ⟨S, _, rfl⟩ := List.mem_map.mp m
    exact words_ne S]
  have e1 : ("( " : Str) = "(" ++ " " := by decide +kernel
  have e2 : (" )" : Str) = " " ++ ")" := by decide +kernel
  rw [e1, e2]
  simp only [strA]
  rfl
theorem page_one (S : Sx) : ("( " ++ S.page ++ " )" : Str) = (Sx.br [S]).page := by
  rw [← page_br (xs := [S]) (by simp)]
  rfl
/-! ### trees as written shapes -/
mutual
def Tr.sx : Tr → Sx
  | .leaf nm fr => .leaf nm fr
  | .grp ps => .br (sxL ps)
def sxL : List Tr → List Sx
  | [] => []
  | t :: ts => t.sx :: sxL ts
end
theorem sxL_map : ∀ ts : List Tr, sxL ts = ts.map Tr.sx
  | [] => rfl
  | t :: ts => by rw [sxL, sxL_map ts]; rfl
/-- parts in normal order stay, however they are shuffled before they are grouped -/
theorem key_mem {t : Tr} (g : t.good) : t.key ∈ t.under := by
  have h := lv_pos g
  rw [← under_len] at h
  unfold Tr.key
  cases e : t.under with
  | nil => rw [e] at h; simp at h
  | cons x r => simp
theorem key_inj : ∀ {ts : List Tr}, goodL ts → (underL ts).Nodup → ∀ a ∈ ts, ∀ b ∈ ts, a.key = b.key → a = b
  | t :: ts, g, nd, a, ma, b, mb, e => by
    unfold underL at nd
    rw [List.nodup_append] at nd
    rcases List.mem_cons.mp ma with ea | ma2 <;> rcases List.mem_cons.mp mb with eb | mb2
    · rw [ea, eb]
    · subst ea
      exact absurd rfl (nd.2.2 _ (key_mem g.1) _ (by rw [e]; exact underL_mem.mpr ⟨b, mb2, key_mem (goodL_mem.mp g.2 b mb2)⟩))
    · subst eb
      exact absurd rfl (nd.2.2 _ (key_mem g.1) _ (by rw [← e]; exact underL_mem.mpr ⟨a, ma2, key_mem (goodL_mem.mp g.2 a ma2)⟩))
    · exact key_inj g.2 nd.2.1 a ma2 b mb2 e
theorem sort_back {ps us : List Tr} (g : goodL ps) (nd : (underL ps).Nodup) (n : ps.Pairwise (fun a b => leT a b = true)) (p : us.Perm ps) : sortT us = ps :=
  ((sortT_perm us).trans p).eq_of_pairwise (fun a b ma mb h1 h2 => key_inj g nd a (p.mem_iff.mp ((sortT_perm us).mem_iff.mp ma)) b mb (leS_anti _ _ h1 h2)) (sortT_pw us) n
theorem nodup_part : ∀ {ps : List Tr} {t : Tr}, t ∈ ps → (underL ps).Nodup → t.under.Nodup
  | p :: ps, t, m, nd => by
    unfold underL at nd
    rw [List.nodup_append] at nd
    rcases List.mem_cons.mp m with rfl | m
    · exact nd.1
    · exact nodup_part m nd.2.1
/-- S is written for t -/
structure Wr (S : Sx) (t : Tr) (d : Nat) : Prop where
  ok : S.ok
  val : S.val = t
  nms : S.nms.Perm t.under
  dep : S.dep ≤ d
  len : S.words.length + 4 ≤ 9 * t.lv
theorem Wr.br {xs : List Sx} {us ps : List Tr} {d : Nat} (h : xs.length = us.length) (hw : ∀ (i : Nat) (x : Sx) (u : Tr), xs[i]? = some x → us[i]? = some u → x.ok ∧ x.val = u ∧ x.nms.Perm u.under ∧ x.dep ≤ d ∧ x.words.length + 4 ≤ 9 * u.lv) (p : us.Perm ps) (g : (Tr.grp ps).good) (n : (Tr.grp ps).norm) (nd : (Tr.grp ps).under.Nodup) :
    (Sx.br xs).ok ∧ (Sx.br xs).val = .grp ps ∧ (Sx.br xs).nms.Perm (Tr.grp ps).under ∧ (Sx.br xs).dep ≤ 1 + d ∧ (Sx.br xs).words.length + 6 ≤ 9 * (Tr.grp ps).lv := by
  have key : ∀ {xs : List Sx} {us : List Tr}, xs.length = us.length → (∀ (i : Nat) (x : Sx) (u : Tr), xs[i]? = some x → us[i]? = some u → x.ok ∧ x.val = u ∧ x.nms.Perm u.under ∧ x.dep ≤ d ∧ x.words.length + 4 ≤ 9 * u.lv) → okL xs ∧ valL xs = us ∧ (nmsL xs).Perm (underL us) ∧ depL xs ≤ d ∧ (wordsL xs).length + 4 * us.length ≤ 9 * lvL us := by
    intro xs
    induction xs with
    | nil =>
      intro us h _
      cases us with
      | nil => exact ⟨trivial, rfl, .nil, Nat.zero_le _, by simp [wordsL, lvL]⟩
      | cons _ _ => simp at h
    | cons x xs ih =>
      intro us h hw
      cases us with
      | nil => simp at h
      | cons u us =>
        obtain ⟨a1, a2, a3, a4, a5⟩ := hw 0 x u rfl rfl
        obtain ⟨b1, b2, b3, b4, b5⟩ := ih (us := us) (by simpa using h) fun i y v hy hv => hw (i + 1) y v (by simpa using hy) (by simpa using hv)
        refine ⟨⟨a1, b1⟩, by rw [valL, a2, b2], a3.append b3, by simp only [depL]; omega, ?_⟩
        simp only [wordsL, lvL, List.length_append, List.length_cons]
        omega
  obtain ⟨k1, k2, k3, k4, k5⟩ := key h hw
  have hp2 : 2 ≤ us.length := by rw [p.length_eq]; exact g.1
  have nd2 : (underL ps).Nodup := (sortS_perm _).nodup_iff.mp nd
  have hne : xs ≠ [] := fun z => by rw [z] at h; simp at h; omega
  refine ⟨⟨hne, k1⟩, ?_, ?_, ?_, ?_⟩
  · show bra (valL xs) = _
    rw [k2, bra_two hp2]
    unfold group
    rw [sort_back g.2 nd2 n.1 p]
  · exact k3.trans ((underL_perm p).trans (sortS_perm _).symm)
  · show 1 + depL xs ≤ 1 + d
    omega
  · show ((("(" : Str)) :: (wordsL xs ++ [((")" : Str))])).length + 6 ≤ 9 * lvL ps
    rw [← lvL_perm p, List.length_cons, List.length_append]
    simp only [List.length_cons, List.length_nil]
    omega
theorem sx_wr : ∀ (n : Nat) {t : Tr}, t.hgt < n → t.good → t.norm → t.under.Nodup → t.sx.ok ∧ t.sx.val = t ∧ t.sx.nms.Perm t.under ∧ t.sx.dep ≤ t.hgt ∧ t.sx.words.length + 4 ≤ 9 * t.lv ∧ t.sx.page = t.text
  | 0, t, h, _, _, _ => absurd h (Nat.not_lt_zero _)
  | n + 1, .leaf nm fr, _, g, _, _ => ⟨g, rfl, .refl _, Nat.le_refl _, (by decide : 1 + 4 ≤ 9 * 1), rfl⟩
  | n + 1, .grp ps, h, g, nn, nd => by
    have h3 : 1 + hgtL ps < n + 1 := h
    have nd2 : (underL ps).Nodup := (sortS_perm _).nodup_iff.mp nd
    have sub : ∀ t ∈ ps, t.sx.ok ∧ t.sx.val = t ∧ t.sx.nms.Perm t.under ∧ t.sx.dep ≤ t.hgt ∧ t.sx.words.length + 4 ≤ 9 * t.lv ∧ t.sx.page = t.text := fun t m => by
      have := hgtL_mem m
      exact sx_wr n (by omega) (goodL_mem.mp g.2 t m) (normL_mem.mp nn.2 t m) (nodup_part m nd2)
    obtain ⟨a, b, c, d, e⟩ := Wr.br (xs := sxL ps) (us := ps) (ps := ps) (d := hgtL ps) (by rw [sxL_map, List.length_map]) (fun i x u hx hu => by
      rw [sxL_map, List.getElem?_map, hu] at hx
      injection hx with hx
      subst hx
      obtain ⟨q1, q2, q3, q4, q5, _⟩ := sub u (List.mem_of_getElem? hu)
      exact ⟨q1, q2, q3, Nat.le_trans q4 (hgtL_mem (List.mem_of_getElem? hu)), q5⟩) (.refl _) g nn nd
    refine ⟨a, b, c, d, (show (Sx.br (sxL ps)).words.length + 4 ≤ _ by omega), ?_⟩
    show (Sx.br (sxL ps)).page = "( " ++ Txt.join " " (textL ps) ++ " )"
    rw [← page_br a.1]
    have e2 : (sxL ps).map Sx.page = textL ps := by
      rw [sxL_map, textL_map, List.map_map]
      exact List.map_congr_left fun t m => (sub t m).2.2.2.2.2
    rw [e2]
theorem perm_mapS {α β : Type} {f : α → β} {ys vs : List β} (p : ys.Perm vs) : ∀ {ts : List α}, vs = ts.map f → ∃ us : List α, ys = us.map f ∧ us.Perm ts := by
  induction p with
  | nil => exact fun {ts} e => ⟨ts, e, .refl _⟩
  | cons x _ ih =>
    intro ts e
    cases ts with
    | nil => cases e
    | cons t ts =>
      injection e with e1 e2
      obtain ⟨us, h1, h2⟩ := ih e2
      exact ⟨t :: us, by rw [h1, e1]; rfl, h2.cons _⟩
  | swap x y l =>
    intro ts e
    cases ts with
    | nil => cases e
    | cons t ts =>
      cases ts with
      | nil => injection e with _ e; cases e
      | cons t2 ts =>
        injection e with e1 e2
        injection e2 with e2 e3
        exact ⟨t2 :: t :: ts, by rw [e1, e2, e3]; rfl, .swap _ _ _⟩
  | trans _ _ i1 i2 =>
    intro ts e
    obtain ⟨us, h1, h2⟩ := i2 e
    obtain ⟨us2, h3, h4⟩ := i1 h1
    exact ⟨us2, h3, h4.trans h2⟩
/-! ### a form read again -/
def lane (c : Nat) : Bool := c == 111 || c == 124
/-- the words of a form with these names -/
def wOf : List Nat → List Str → List Str
  | [], _ => []
  | c :: r, ns => if lane c = true then (match ns with
      | [] => []
      | n :: ns' => (Tr.leaf n (c == 111)).text :: wOf r ns') else (⟨#[c]⟩ : Str) :: wOf r ns
def cnt (l : List Nat) : Nat := (l.filter lane).length
theorem wOf_app : ∀ (l r : List Nat) (ns ms : List Str), ns.length = cnt l → wOf (l ++ r) (ns ++ ms) = wOf l ns ++ wOf r ms
  | [], r, ns, ms, h => by
    have : ns = [] := List.eq_nil_of_length_eq_zero h
    rw [this]
    rfl
  | c :: l, r, ns, ms, h => by
    unfold cnt at h
    rw [List.filter_cons] at h
    by_cases hc : lane c = true
    · rw [if_pos hc] at h
      cases ns with
      | nil => simp at h
      | cons n ns =>
        have ih := wOf_app l r ns ms (by simpa [cnt] using h)
        simp only [List.cons_append, wOf, if_pos hc, ih]
    · rw [if_neg hc] at h
      have ih := wOf_app l r ns ms h
      simp only [List.cons_append, wOf, if_neg hc, ih]
theorem open_br : (⟨#[40]⟩ : Str) = "(" := by decide +kernel
theorem close_br : (⟨#[41]⟩ : Str) = ")" := by decide +kernel
/-- the words of a form are those of a written shape whose tree has this form -/
theorem form_sx : ∀ (n : Nat) {t : Tr} {ns : List Str}, t.hgt < n → t.good → ns.length = t.lv → (∀ x ∈ ns, isNm x = true) →
    cnt t.form.cps.toList = t.lv ∧ ∃ S : Sx, S.ok ∧ S.words = wOf t.form.cps.toList ns ∧ S.nms = ns ∧ S.val.form = t.form ∧ S.dep ≤ t.hgt ∧ S.words.length + 2 ≤ 7 * t.lv
  | 0, t, ns, h, _, _, _ => absurd h (Nat.not_lt_zero _)
  | n + 1, .leaf nm fr, ns, _, g, hl, hn => by
    obtain ⟨x, rfl⟩ : ∃ x, ns = [x] := List.length_eq_one_iff.mp hl
    rw [form_leaf]
    refine ⟨by cases fr; exact (by decide : cnt [124] = 1); exact (by decide : cnt [111] = 1), .leaf x fr, hn x (by simp), ?_, rfl, ?_, Nat.zero_le _, (by decide : 1 + 2 ≤ 7 * 1)⟩
    · cases fr <;> rfl
    · exact form_leaf_iff.mpr rfl
  | n + 1, .grp ps, ns, h, g, hl, hn => by
    have h3 : 1 + hgtL ps < n + 1 := h
    have hl2 : ns.length = lvL ps := hl
    obtain ⟨us, eus, pus⟩ := perm_mapS (f := Tr.form) (sortF_perm (formL ps)) (formL_map ps)
    have gus := (goodL_perm pus).mpr g.2
    have hus : hgtL us < n := by rw [hgtL_perm pus]; omega
    have vus := lvL_perm pus
    have key : ∀ {us : List Tr} {ns : List Str}, goodL us → hgtL us < n → ns.length = lvL us → (∀ x ∈ ns, isNm x = true) →
        cnt ((us.map Tr.form).map (·.cps.toList)).flatten = lvL us ∧ ∃ xs : List Sx, okL xs ∧ wordsL xs = wOf ((us.map Tr.form).map (·.cps.toList)).flatten ns ∧ nmsL xs = ns ∧ formL (valL xs) = us.map Tr.form ∧ depL xs ≤ hgtL us ∧ xs.length = us.length ∧ (wordsL xs).length + 2 * us.length ≤ 7 * lvL us := by
      intro us
      induction us with
      | nil =>
        intro ns _ _ hl _
        have : ns = [] := List.eq_nil_of_length_eq_zero hl
        subst this
        exact ⟨rfl, [], trivial, rfl, rfl, rfl, Nat.le_refl _, rfl, Nat.le_refl _⟩
      | cons u us ih =>
        intro ns g hh hl hn
        have hl' : ns.length = u.lv + lvL us := hl
        have hh' : max u.hgt (hgtL us) < n := hh
        obtain ⟨c1, S, a1, a2, a3, a4, a5, a6⟩ := form_sx n (t := u) (ns := ns.take u.lv) (by omega) g.1 (by rw [List.length_take]; omega) fun x m => hn x (List.mem_of_mem_take m)
        obtain ⟨c2, xs, b1, b2, b3, b4, b5, b6, b7⟩ := ih (ns := ns.drop u.lv) g.2 (by omega) (by rw [List.length_drop]; omega) fun x m => hn x (List.mem_of_mem_drop m)
        have e : ((u :: us).map Tr.form).map (·.cps.toList) = u.form.cps.toList :: ((us.map Tr.form).map (·.cps.toList)) := rfl
        rw [e, List.flatten_cons]
        refine ⟨?_, S :: xs, ⟨a1, b1⟩, ?_, ?_, ?_, ?_, by simp [b6], ?_⟩
        · unfold cnt at *
          rw [List.filter_append, List.length_append, c1, c2]
          rfl
        · rw [wordsL, a2, b2, ← wOf_app _ _ _ _ (by rw [c1, List.length_take]; omega), List.take_append_drop]
        · rw [nmsL, a3, b3, List.take_append_drop]
        · rw [valL, formL, a4, b4]
          rfl
        · simp only [depL, hgtL]
          omega
        · simp only [wordsL, lvL, List.length_append, List.length_cons]
          omega
    obtain ⟨c2, xs, b1, b2, b3, b4, b5, b6, b7⟩ := key gus hus (by rw [vus]; exact hl2) hn
    have hus2 : us.length = ps.length := pus.length_eq
    have h2 : 2 ≤ ps.length := g.1
    have ef : (Tr.grp ps).form.cps.toList = 40 :: (((us.map Tr.form).map (·.cps.toList)).flatten ++ [41]) := by rw [form_grp, eus]
    rw [ef]
    have cc : cnt (40 :: (((us.map Tr.form).map (·.cps.toList)).flatten ++ [41])) = lvL ps := by
      have e : cnt (40 :: (((us.map Tr.form).map (·.cps.toList)).flatten ++ [41])) = cnt ((us.map Tr.form).map (·.cps.toList)).flatten := by
        unfold cnt
        rw [List.filter_cons, if_neg (by decide), List.filter_append]
        simp [lane]
      rw [e, c2, vus]
    refine ⟨cc, .br xs, ⟨fun z => ?_, b1⟩, ?_, b3, ?_, ?_, ?_⟩
    · rw [z] at b6
      simp at b6
      omega
    · show ((("(" : Str)) :: (wordsL xs ++ [((")" : Str))])) = _
      have e : wOf (40 :: (((us.map Tr.form).map (·.cps.toList)).flatten ++ [41])) ns = (⟨#[40]⟩ : Str) :: wOf (((us.map Tr.form).map (·.cps.toList)).flatten ++ [41]) ns := rfl
      rw [e, open_br, ← List.append_nil ns, wOf_app _ _ _ _ (by rw [c2, vus]; exact hl2), b2]
      have e2 : wOf [41] [] = [(⟨#[41]⟩ : Str)] := rfl
      rw [e2, close_br]
    · show (bra (valL xs)).form = _
      rw [bra_two (by rw [valL_len, b6, hus2]; exact h2), group_form]
      refine form_grp_iff.mpr ?_
      rw [b4, ← eus]
      exact sortF_perm _
    · show 1 + depL xs ≤ 1 + hgtL ps
      rw [← hgtL_perm pus]
      omega
    · show ((("(" : Str)) :: (wordsL xs ++ [((")" : Str))])).length + 2 ≤ 7 * lvL ps
      rw [← vus, List.length_cons, List.length_append]
      simp only [List.length_cons, List.length_nil]
      omega
theorem cnt_app (l r : List Nat) : cnt (l ++ r) = cnt l + cnt r := by
  unfold cnt
  rw [List.filter_append, List.length_append]
theorem wOf_take (l : List Nat) (ns : List Str) (h : cnt l ≤ ns.length) : wOf l ns = wOf l (ns.take (cnt l)) := by
  have := wOf_app l [] (ns.take (cnt l)) (ns.drop (cnt l)) (by rw [List.length_take]; omega)
  rw [List.append_nil, List.take_append_drop] at this
  rw [this]
  show _ ++ wOf [] _ = _
  simp [wOf]
theorem wOf_snoc {l : List Nat} {c : Nat} {ns : List Str} (h : cnt l ≤ ns.length) : wOf (l ++ [c]) ns = wOf l ns ++ wOf [c] (ns.drop (cnt l)) := by
  have := wOf_app l [c] (ns.take (cnt l)) (ns.drop (cnt l)) (by rw [List.length_take]; omega)
  rw [List.take_append_drop] at this
  rw [this, ← wOf_take l ns h]
theorem sgn_eq {c d : Nat} {z : Str} (h : z.cps.toList = [d]) : ((⟨#[c]⟩ : Str) = z) ↔ c = d := by
  constructor
  · intro e
    have h2 : [c] = z.cps.toList := congrArg (fun s : Str => s.cps.toList) e
    rw [h] at h2
    injection h2
  · rintro rfl
    exact str_ext h.symm
theorem form_signs : ∀ (n : Nat) {t : Tr}, t.hgt < n → ∀ c ∈ t.form.cps.toList, lane c = true ∨ c = 40 ∨ c = 41
  | 0, t, h => absurd h (Nat.not_lt_zero _)
  | n + 1, .leaf nm fr, _ => fun c m => by
    rw [form_leaf] at m
    rw [List.mem_singleton.mp m]
    cases fr <;> exact .inl rfl
  | n + 1, .grp ps, h => fun c m => by
    have h3 : 1 + hgtL ps < n + 1 := h
    rw [form_grp] at m
    rcases List.mem_cons.mp m with rfl | m
    · exact .inr (.inl rfl)
    · rcases List.mem_append.mp m with m | m
      · obtain ⟨l, ml, mc⟩ := List.mem_flatten.mp m
        obtain ⟨w, mw, rfl⟩ := List.mem_map.mp ml
        obtain ⟨t, mt, rfl⟩ := formL_mem mw
        have := hgtL_mem mt
        exact form_signs n (by omega) c mc
      · rw [List.mem_singleton.mp m]
        exact .inr (.inr rfl)
end LB

namespace K3
open PySem PySem.Spec PyProof.Rows L2 LamX LK LB
/-- S is written for t, within the bounds of read_words -/
structure Rd1 (S : Sx) (t : Tr) : Prop where
  ok : S.ok
  val : S.val = t
  nd : S.nms.Nodup
  dep : S.dep ≤ 8
  few : S.nms.length ≤ 10
  len : S.words.length ≤ 1000
/-- a Shape of the tree t -/
def SD (K : PySem.W.Frag) (H : Hp) (v : V) (t : Tr) : Prop := ∃ (a dx : Addr) (fs : List (Str × V)) (r dx2 : Addr) (gs : List (Str × V)), v = .ref a ∧ H a = some (.ins (CS K) dx fs) ∧ fs.lookup ("root" : Str) = some (.ref r) ∧ fs.lookup ("form" : Str) = some (.str t.form) ∧ H r = some (.ins (CN K) dx2 gs) ∧ gs.lookup ("word" : Str) = some (.str t.text)
theorem SD.keep {K : PySem.W.Frag} {T : TBs} {H H' : Hp} {B : List Addr} {v : V} {t : Tr} (h : SD K H v t) (e : Stp T B H H') (l : Lsts H B) : SD K H' v t := by
  obtain ⟨a, dx, fs, r, dx2, gs, h1, h2, h3, h4, h5, h6⟩ := h
  have nb : ∀ {z : Addr} {C d : Addr} {f : List (Str × V)}, H z = some (.ins C d f) → z ∉ B := fun hz m => by
    obtain ⟨xs, q⟩ := l _ m
    rw [hz] at q
    cases q
  exact ⟨a, dx, fs, r, dx2, gs, h1, e.get h2 trivial (nb h2), h3, h4, e.get h5 trivial (nb h5), h6⟩
section
variable {P : Program} {w : World} {K : PySem.W.Frag} {mg : Str → Option Value} {base : Heap}
def rIsi2 (K : PySem.W.Frag) (C : Addr) : List V → Hp → VK → Prop := fun xs H Q => rIsi K xs H Q ∨ ∃ a dx fs, xs = [.ref a, .ref C] ∧ H a = some (.ins C dx fs) ∧ Q (.bl true) H
theorem call_isi2 {X : Cx} {C : Addr} (c : C8.InsC X.K C) : CallR X (.builtin "isinstance") (rIsi2 X.K C) := by
  intro pins s σ H xs us Q I r h
  rcases h with h | h
  · exact call_isi pins s σ H xs us Q I r h
  · exact C8.call_isC c pins s σ H xs us Q I r h
def spRN (K : PySem.W.Frag) (Tb : TBs) : Sp := fun vs H Q _ => ∃ (S : Sx) (t : Tr), vs = [.str S.page] ∧ Rd1 S t ∧ Tabs Tb H ∧ ∀ v H', Stp Tb [] H H' → ND K H' [] v t → Q v H'
theorem cal_rn (T : Tx K mg base) : Cal P w K mg base 14 "read_node" (spRN K (TB K)) :=
  cal_mk (fn_read_node T (k := 13) (fun vs H Q E ⟨S, t, e, _⟩ => by rw [e]; rfl) fun A outer s H vs Q E hr h => by
    obtain ⟨S, t, rfl, R, hT, k⟩ := h
    have c_read_words : Cal P w K mg base 13 "read_words" (spRead K (TB K)) := cal_read T
    refine ⟨_, (pss_cons (ps_if (pt_not (pt_val (pe_callB call_isi (by rfl) (n_isinstance T) (by decide +kernel) (pa_cons (pv 0) (pa_cons (pe_bltn (v := .ty "str") (u := .type "str") (by rfl) (n_str T) (by decide +kernel) rfl) pa_nil))))) (pss_one ps_never) pss_nil)
  (pss_cons (ps_if (pt_cmpR op_gt (pe_callB call_len_str (by rfl) (n_len T) (by decide +kernel) (pa_cons (pv 0) pa_nil)) (pe_gc rfl (k_MOST_SIGNS T)) (nomark _)) (pss_one ps_never) pss_nil)
  (pss_one (ps_ret (pe_c c_read_words hr (by omega) rfl (pa_cons (pe_split (pv 0) pe_str) pa_nil)))))), ?_⟩
    have hl := page_len R.ok R.len
    refine ⟨_, rfl, .str S.page, .ty "str", .type "str", .type "str", true, rfl, .ty _, .base (.str _), rfl, _, rfl, ?_⟩
    refine iteF ?_
    refine ⟨_, rfl, S.page, rfl, by rw [zL]; omega, _, _, rfl, rfl, _, rfl, ?_⟩
    rw [decide_eq_false (by omega)]
    refine iteF ?_
    refine ⟨_, rfl, ⟨_, rfl⟩, _, _, rfl, rfl, by decide +kernel, by rw [zL]; omega, fun p hp => ?_⟩
    rw [page_split R.ok]
    have e1 : Stp (TB K) [] H (upd H p (.lst (S.words.map V.str))) := .new hp
    exact ⟨p, S, rfl, upd_same, R.ok, R.dep, R.nd, R.few, R.len, e1.tabs hT, fun v H' e n => k v H' (e1.trans e) (by rw [← R.val]; exact n)⟩) (g_read_node T)
def spShp (K : PySem.W.Frag) (Tb : TBs) : Sp := fun vs H Q _ => ∃ (x dx : Addr) (v : V) (t : Tr), vs = [.ref x, v] ∧ H x = some (.ins (CS K) dx []) ∧ Tabs Tb H ∧ ((∃ S, v = .str S.page ∧ Rd1 S t) ∨ ND K H [] v t) ∧
  ∀ H', Stp Tb [x] H H' → SD K H' (.ref x) t → Q .non H'
theorem cal_shp (T : Tx K mg base) : Mak P w K mg base 15 "Shape" (CS K) (spShp K (TB K)) :=
  mak_mk (fn_Shape_init T (k := 14) (fun vs H Q E ⟨x, dx, v, t, e, _⟩ => by rw [e]; rfl) fun A outer s H vs Q E hr h => by
    obtain ⟨x, dx, v, t, rfl, hx, hT, hv, k⟩ := h
    have c_read_node : Cal P w K mg base 14 "read_node" (spRN K (TB K)) := cal_rn T
    refine ⟨_, (pss_cons (ps_fld (pv 0) (pe_ifExp (pt_val (pe_callB (r := rIsi2 K (CN K)) (call_isi2 (insB_ok (cl_Node T) (e_1 T))) (by rfl) (n_isinstance T) (by decide +kernel) (pa_cons (pv 1) (pa_cons (pe_gc (v := .ref (CN K)) rfl ⟨_, g_Node T, rfl⟩) pa_nil)))) (pv 1) (pe_c c_read_node hr (by omega) rfl (pa_cons (pv 1) pa_nil))) rfl)
  (pss_cons (ps_fld (pv 0) (pe_fld (pe_fld (pv 0) rfl) rfl) rfl)
  (pss_one (ps_fld (pv 0) (pe_fld (pe_fld (pv 0) rfl) rfl) rfl)))), ?_⟩
    have sx : ∀ (o : HO) (H' : Hp) (z : HO), H' x = some z → Own z → Stp (TB K) [x] H' (upd H' x o) := fun o H' z e ow => .set e ow (by simp)
    rcases hv with ⟨S, rfl, R⟩ | n1
    · refine ⟨_, rfl, .inl ⟨.str S.page, .ref (CN K), .type "str", .ref (CN K), false, rfl, .own _, .base (.str _), of_decide_eq_true (e_0 T), _, rfl, ?_⟩⟩
      refine iteF ?_
      refine ⟨_, rfl, S, t, rfl, R, hT, fun v H1 e1 n1 => ?_⟩
      obtain ⟨ra, dxa, fsa, u, rfl, hra, _, _, hwd, hpt, htl, _, _⟩ := n1.ex
      have x1 := e1.get0 hx trivial
      have hrx : ra ≠ x := ne_of hra x1 (by intro z; injection z with _ _ z; rw [z] at hwd; cases hwd)
      refine ⟨_, rfl, x, CS K, dx, [], rfl, x1, cl_Shape T, na_Shape_root T, by decide, ?_⟩
      have e2 : Stp (TB K) [x] H (upd H1 x (.ins (CS K) dx (putF "root" (.ref ra) []))) := e1.wide.trans (sx _ _ _ x1 trivial)
      have x2 : (upd H1 x (.ins (CS K) dx (putF "root" (.ref ra) []))) x = some (.ins (CS K) dx (putF "root" (.ref ra) [])) := upd_same
      have r2 : (upd H1 x (.ins (CS K) dx (putF "root" (.ref ra) []))) ra = some (.ins (CN K) dxa fsa) := by rw [upd_ne hrx]; exact hra
      have k2 : (putF "root" (.ref ra) []).lookup ("root" : Str) = some (V.ref ra) := set_self
      have n2 : (putF "root" (V.ref ra) []).length ≤ 1 := set_len (Nat.le_refl 0)
      generalize upd H1 x (.ins (CS K) dx (putF "root" (.ref ra) [])) = H2 at e2 x2 r2 ⊢
      generalize putF "root" (V.ref ra) [] = fs2 at x2 k2 n2
      refine ⟨_, rfl, x, CS K, dx, _, .ref ra, rfl, x2, cl_Shape T, na_Shape_root T, k2, ra, CN K, dxa, fsa, _, rfl, r2, cl_Node T, na_Node_tall T, htl, _, rfl, x, CS K, dx, _, rfl, x2, cl_Shape T, na_Shape_height T, by omega, ?_⟩
      have e3 : Stp (TB K) [x] H (upd H2 x (.ins (CS K) dx (putF "height" (.int (t.hgt : Int)) fs2))) := e2.trans (sx _ _ _ x2 trivial)
      have x3 : (upd H2 x (.ins (CS K) dx (putF "height" (.int (t.hgt : Int)) fs2))) x = some (.ins (CS K) dx (putF "height" (.int (t.hgt : Int)) fs2)) := upd_same
      have r3 : (upd H2 x (.ins (CS K) dx (putF "height" (.int (t.hgt : Int)) fs2))) ra = some (.ins (CN K) dxa fsa) := by rw [upd_ne hrx]; exact r2
      have k3 : (putF "height" (.int (t.hgt : Int)) fs2).lookup ("root" : Str) = some (V.ref ra) := set_look k2 (by decide +kernel)
      have n3 : (putF "height" (.int (t.hgt : Int)) fs2).length ≤ 2 := set_len n2
      generalize upd H2 x (.ins (CS K) dx (putF "height" (.int (t.hgt : Int)) fs2)) = H3 at e3 x3 r3 ⊢
      generalize putF "height" (.int (t.hgt : Int)) fs2 = fs3 at x3 k3 n3
      refine ⟨_, rfl, x, CS K, dx, _, .ref ra, rfl, x3, cl_Shape T, na_Shape_root T, k3, ra, CN K, dxa, fsa, _, rfl, r3, cl_Node T, na_Node_pattern T, hpt, _, rfl, x, CS K, dx, _, rfl, x3, cl_Shape T, na_Shape_form T, by omega, ?_⟩
      exact k _ (e3.trans (sx _ _ _ x3 trivial)) ⟨x, dx, _, ra, dxa, fsa, rfl, upd_same, set_look k3 (by decide +kernel), set_self, by rw [upd_ne hrx]; exact r3, hwd⟩
    · have n1' := n1
      obtain ⟨ra0, dxa0, fsa0, u0, ev0, hra0, _⟩ := n1'.ex
      refine ⟨_, rfl, .inr ⟨ra0, dxa0, fsa0, by rw [ev0], hra0, _, rfl, ?_⟩⟩
      refine iteT ?_
      refine ⟨_, rfl, ?_⟩
      have e1 : Stp (TB K) [] H H := .refl
      obtain ⟨ra, dxa, fsa, u, rfl, hra, _, _, hwd, hpt, htl, _, _⟩ := n1.ex
      have x1 := e1.get0 hx trivial
      have hrx : ra ≠ x := ne_of hra x1 (by intro z; injection z with _ _ z; rw [z] at hwd; cases hwd)
      refine ⟨_, rfl, x, CS K, dx, [], rfl, x1, cl_Shape T, na_Shape_root T, by decide, ?_⟩
      have e2 : Stp (TB K) [x] H (upd H x (.ins (CS K) dx (putF "root" (.ref ra) []))) := e1.wide.trans (sx _ _ _ x1 trivial)
      have x2 : (upd H x (.ins (CS K) dx (putF "root" (.ref ra) []))) x = some (.ins (CS K) dx (putF "root" (.ref ra) [])) := upd_same
      have r2 : (upd H x (.ins (CS K) dx (putF "root" (.ref ra) []))) ra = some (.ins (CN K) dxa fsa) := by rw [upd_ne hrx]; exact hra
      have k2 : (putF "root" (.ref ra) []).lookup ("root" : Str) = some (V.ref ra) := set_self
      have n2 : (putF "root" (V.ref ra) []).length ≤ 1 := set_len (Nat.le_refl 0)
      generalize upd H x (.ins (CS K) dx (putF "root" (.ref ra) [])) = H2 at e2 x2 r2 ⊢
      generalize putF "root" (V.ref ra) [] = fs2 at x2 k2 n2
      refine ⟨_, rfl, x, CS K, dx, _, .ref ra, rfl, x2, cl_Shape T, na_Shape_root T, k2, ra, CN K, dxa, fsa, _, rfl, r2, cl_Node T, na_Node_tall T, htl, _, rfl, x, CS K, dx, _, rfl, x2, cl_Shape T, na_Shape_height T, by omega, ?_⟩
      have e3 : Stp (TB K) [x] H (upd H2 x (.ins (CS K) dx (putF "height" (.int (t.hgt : Int)) fs2))) := e2.trans (sx _ _ _ x2 trivial)
      have x3 : (upd H2 x (.ins (CS K) dx (putF "height" (.int (t.hgt : Int)) fs2))) x = some (.ins (CS K) dx (putF "height" (.int (t.hgt : Int)) fs2)) := upd_same
      have r3 : (upd H2 x (.ins (CS K) dx (putF "height" (.int (t.hgt : Int)) fs2))) ra = some (.ins (CN K) dxa fsa) := by rw [upd_ne hrx]; exact r2
      have k3 : (putF "height" (.int (t.hgt : Int)) fs2).lookup ("root" : Str) = some (V.ref ra) := set_look k2 (by decide +kernel)
      have n3 : (putF "height" (.int (t.hgt : Int)) fs2).length ≤ 2 := set_len n2
      generalize upd H2 x (.ins (CS K) dx (putF "height" (.int (t.hgt : Int)) fs2)) = H3 at e3 x3 r3 ⊢
      generalize putF "height" (.int (t.hgt : Int)) fs2 = fs3 at x3 k3 n3
      refine ⟨_, rfl, x, CS K, dx, _, .ref ra, rfl, x3, cl_Shape T, na_Shape_root T, k3, ra, CN K, dxa, fsa, _, rfl, r3, cl_Node T, na_Node_pattern T, hpt, _, rfl, x, CS K, dx, _, rfl, x3, cl_Shape T, na_Shape_form T, by omega, ?_⟩
      exact k _ (e3.trans (sx _ _ _ x3 trivial)) ⟨x, dx, _, ra, dxa, fsa, rfl, upd_same, set_look k3 (by decide +kernel), set_self, by rw [upd_ne hrx]; exact r3, hwd⟩) (g_Shape T) (mk_Shape T)

def spShEq (K : PySem.W.Frag) : Sp := fun vs H Q _ => ∃ (a b : V) (t1 t2 : Tr), vs = [a, b] ∧ SD K H a t1 ∧ SD K H b t2 ∧ Q (.bl (decide (t1.text = t2.text))) H
theorem fn_sheq (T : Tx K mg base) : ∃ fd, FnOk P w K mg base L2.CX0 1 (He.fAd K ("Shape", some "__eq__")) fd ["self", "other"] (spShEq K) ∧ PySem.W.keepIn K (.ref (He.fAd K ("Shape", some "__eq__"))) = true ∧ Binds K fd ["self", "other"] [] :=
  fn_Shape_eq T (k := 0) (fun vs H Q E ⟨a, b, t1, t2, e, _⟩ => by rw [e]; rfl) fun A outer s H vs Q E hr h => by
    obtain ⟨a, b, t1, t2, rfl, h1, h2, k⟩ := h
    refine ⟨_, (pss_one (ps_ret (pe_and (pe_callB (r := rIsi2 K (CS K)) (call_isi2 (insB_ok (cl_Shape T) (e_2 T))) (by rfl) (n_isinstance T) (by decide +kernel) (pa_cons (pv 1) (pa_cons (pe_gc (v := .ref (CS K)) rfl ⟨_, g_Shape T, rfl⟩) pa_nil))) (pe_one (pe_cmpR op_eq (pe_fld (pe_fld (pv 0) rfl) rfl) (pe_fld (pe_fld (pv 1) rfl) rfl) (nomark _)))))), ?_⟩
    obtain ⟨a, dx, fs, r, dx2, gs, rfl, ha, hrt, _, hr2, hw⟩ := h1
    obtain ⟨b, dxb, fsb, rb, dx2b, gsb, rfl, hb, hrtb, _, hr2b, hwb⟩ := h2
    refine ⟨_, rfl, .inr ⟨b, dxb, fsb, rfl, hb, _, rfl, ?_⟩⟩
    refine iteT ?_
    refine ⟨_, rfl, a, CS K, dx, fs, _, rfl, ha, cl_Shape T, na_Shape_root T, hrt, r, CN K, dx2, gs, _, rfl, hr2, cl_Node T, na_Node_word T, hw, _, rfl, b, CS K, dxb, fsb, _, rfl, hb, cl_Shape T, na_Shape_root T, hrtb, rb, CN K, dx2b, gsb, _, rfl, hr2b, cl_Node T, na_Node_word T, hwb, rfl, ?_⟩
    have e : decide (V.str t1.text = V.str t2.text) = decide (t1.text = t2.text) := decide_eq_decide.mpr ⟨fun e => by injection e, fun e => by rw [e]⟩
    rw [e]
    exact k
end
end K3

namespace K3
open PySem PySem.Spec PyProof.Rows L2 LamX LK LB
section
variable {P : Program} {w : World} {K : PySem.W.Frag} {mg : Str → Option Value} {base : Heap}
theorem o_cps : ("o" : Str).cps.toList = [111] := by decide +kernel
theorem op_cps : ("(" : Str).cps.toList = [40] := by decide +kernel
theorem cl_cps : (")" : Str).cps.toList = [41] := by decide +kernel
theorem dsgn {c d : Nat} {z : Str} (h : z.cps.toList = [d]) : decide (V.str ⟨#[c]⟩ = V.str z) = decide (c = d) := decide_eq_decide.mpr ⟨fun e => (sgn_eq h).mp (by injection e), fun e => by rw [(sgn_eq h).mpr e]⟩
def spShapeOf (K : PySem.W.Frag) (Tb : TBs) : Sp := fun vs H Q _ => ∃ (t : Tr) (nl : Addr) (ns : List Str), vs = [.str t.form, .ref nl] ∧ t.good ∧ t.lv ≤ 8 ∧ H nl = some (.lst (ns.map V.str)) ∧ ns.length = t.lv ∧ ns.Nodup ∧ (∀ x ∈ ns, isNm x = true) ∧ Tabs Tb H ∧
  ∀ v t' H', Stp Tb [] H H' → SD K H' v t' → t'.form = t.form → Q v H'
theorem cal_shapeof (T : Tx K mg base) : Cal P w K mg base 17 "shape_of" (spShapeOf K (TB K)) :=
  cal_mk (fn_shape_of T (k := 16) (fun vs H Q E ⟨t, nl, ns, e, _⟩ => by rw [e]; rfl) fun A outer s H vs Q E hr h => by
    obtain ⟨t, nl, ns, rfl, hg, hlv, hnl, hlen, hnd, hnm, hT, k⟩ := h
    have c_read_words : Cal P w K mg base 13 "read_words" (spRead K (TB K)) := cal_read T
    have c_lane_word : Cal P w K mg base 3 "lane_word" (spLane (TB K)) := cal_lane T
    have m_Shape : Mak P w K mg base 15 "Shape" (CS K) (spShp K (TB K)) := cal_shp T
    refine ⟨_, (pss_cons (ps_if (pt_cmpR op_ne (pe_callB call_len_seq (by rfl) (n_len T) (by decide +kernel) (pa_cons (pe_lc (own := [("sign", 4)]) (g := gName 4) rfl sc_shape_of.nd (pi_str (pv 0)) (blkOk_by (own := [("sign", 4)]) (N := N_shape_of) (sc := defScope s_shape_of) (by decide +kernel)) (fun _ _ _ _ _ => (pg_name (i := 4) sc_shape_of.nd rfl (Or.inl rfl))) (fun _ _ _ _ _ => pts_one (PW.pt (pw_or (pt_cmpR op_eq (pv 4) pe_str (nomark _)) (pw_or1 (pt_cmpR op_eq (pv 4) pe_str (nomark _)))))) (fun _ _ _ _ _ => (pv 4))) pa_nil)) (pe_callB call_len_seq (by rfl) (n_len T) (by decide +kernel) (pa_cons (pv 1) pa_nil)) (nomark _)) (pss_one ps_never) pss_nil)
  (pss_cons (ps_if (pt_cmpR op_gt (pe_callB call_len_str (by rfl) (n_len T) (by decide +kernel) (pa_cons (pv 0) pa_nil)) (pe_gc rfl (k_MOST_SIGNS T)) (nomark _)) (pss_one ps_never) pss_nil)
  (pss_cons (ps_set (i := 2) sc_shape_of.nd rfl (Or.inl rfl) (pe_lst pa_nil))
  (pss_cons (ps_set (i := 3) sc_shape_of.nd rfl (Or.inl rfl) pe_int)
  (pss_cons (ps_for PassesOwn.never rfl (pi_str (pv 0)) (pg_name (i := 4) sc_shape_of.nd rfl (Or.inl rfl)) (pss_one (ps_if (PW.pt (pw_or (pt_cmpR op_eq (pv 4) pe_str (nomark _)) (pw_or1 (pt_cmpR op_eq (pv 4) pe_str (nomark _))))) (pss_cons (ps_expr (pe_bm PySem.F.plainAttrs_list PySem.F.slot_list_append PySem.F.type_list_append mt_append (pv 2) (pa_cons (pe_c c_lane_word hr (by omega) rfl (pa_cons (pe_ix ix_list (pv 1) (pv 3) (fun _ _ => rfl)) (pa_cons (pv 4) pa_nil))) pa_nil)))
  (pss_one (ps_aug (i := 3) sc_shape_of.nd rfl (Or.inl rfl) pe_int ip_add))) (pss_one (ps_if (PW.pt (pw_or (pt_cmpR op_eq (pv 4) pe_str (nomark _)) (pw_or1 (pt_cmpR op_eq (pv 4) pe_str (nomark _))))) (pss_one (ps_expr (pe_bm PySem.F.plainAttrs_list PySem.F.slot_list_append PySem.F.type_list_append mt_append (pv 2) (pa_cons (pv 4) pa_nil)))) (pss_one (ps_expr (pe_bm PySem.F.plainAttrs_list PySem.F.slot_list_append PySem.F.type_list_append mt_append (pv 2) (pa_cons pe_str pa_nil)))))))))
  (pss_one (ps_ret (pe_mk m_Shape hr (by omega) rfl (pa_cons (pe_c c_read_words hr (by omega) rfl (pa_cons (pv 2) pa_nil)) pa_nil))))))))), ?_⟩
    obtain ⟨hcnt, S, sok, sw, snm, sf, sdep, slen⟩ := form_sx (t.hgt + 1) (Nat.lt_succ_self _) hg hlen hnm
    have hfl := form_len hg
    have hh := hgt_lv hg
    have hcl := len_cps t.form
    have hsz : t.form.cps.size = t.form.cps.toList.length := by rw [Array.length_toList]
    have hz := zL
    refine ⟨_, rfl, t.form, rfl, fun D hD => ?_⟩
    refine lc_acc (T := TB K) (B := []) walk_str (fun i x => ∃ c, t.form.cps[i]? = some c ∧ x = .str ⟨#[c]⟩) (fun i H x H' h => h) (fun _ => True) .refl hD (by simp) (by omega)
        (fun i _ acc => acc.length = cnt (t.form.cps.toList.take i)) (fun _ => rfl) (fun _ _ _ _ _ h => h) trivial (fun _ _ _ => trivial) (fun _ _ _ => trivial) ?_ ?_
    · rintro i x H2 Nx hi ⟨c, hc, rfl⟩ e2 _ kk kn
      have hc2 : t.form.cps.toList[i]? = some c := by rw [Array.getElem?_toList]; exact hc
      have tk := take_snoc hc2
      refine ⟨rfl, _, rfl, rfl, _, rfl, ?_⟩
      rw [dsgn o_cps]
      have yes : lane c = true → ∃ acc, H2 D = some (.lst acc) ∧ acc.length < sizeLine ∧ Nx (upd H2 D (.lst (acc ++ [.str ⟨#[c]⟩]))) := fun hl => kk _ _ .refl trivial fun acc _ ha => by
        rw [tk, cnt_app, List.length_append, ha]
        simp [LB.cnt, hl]
      by_cases h1 : c = 111
      · rw [decide_eq_true h1]
        refine iteT ?_
        refine iteT ?_
        exact ⟨_, rfl, yes (by rw [h1]; rfl)⟩
      · rw [decide_eq_false h1]
        refine iteF ?_
        refine ⟨_, rfl, rfl, _, rfl, ?_⟩
        rw [dsgn bar_cps]
        by_cases h2 : c = 124
        · rw [decide_eq_true h2]
          refine iteT ?_
          exact ⟨_, rfl, yes (by rw [h2]; rfl)⟩
        · rw [decide_eq_false h2]
          refine iteF ?_
          refine kn _ .refl trivial fun acc ha => ?_
          rw [tk, cnt_app, ha]
          have : lane c = false := by simp [lane, h1, h2]
          simp [LB.cnt, this]
    · intro H1 ys e1 _ hD1 hy
      rw [hsz, List.take_length, hcnt] at hy
      refine ⟨D, ys, rfl, .inl (SqL.of hD1), _, rfl, nl, _, rfl, .inl (SqL.of (e1.get0 hnl trivial)), ?_⟩
      rw [hy, List.length_map, hlen]
      refine ⟨rfl, _, rfl, ?_⟩
      rw [decide_eq_true rfl]
      refine iteF ?_
      refine ⟨_, rfl, t.form, rfl, by omega, _, _, rfl, rfl, _, rfl, ?_⟩
      rw [decide_eq_false (by omega)]
      refine iteF ?_
      refine ⟨(by show 0 ≤ sizeLine; decide), fun wl hwl => ?_⟩
      have e2 : Stp (TB K) [] H (upd H1 wl (.lst [])) := e1.alloc hwl
      have nw : Nw H wl := (Nw.of hwl).back e1
      have hnl1 := e1.get0 hnl trivial
      have hnw : nl ≠ wl := ne_of_none hnl1 hwl
      refine ⟨_, rfl, t.form, rfl, for_it walk_str (fun i σ H' => ∃ (p4 : Option V), σ = [some (.str t.form), some (.ref nl), some (.ref wl), some (.int ((cnt (t.form.cps.toList.take i) : Nat) : Int)), p4] ∧ Stp (TB K) [] H H' ∧ H' wl = some (.lst ((wOf (t.form.cps.toList.take i) ns).map V.str)))
        ⟨none, rfl, e2, upd_same⟩ (fun _ _ _ _ _ => trivial) ?_ ?_⟩
      · rintro i x σ H2 H2' hi ⟨p4, rfl, e3, w3⟩ ⟨rfl, c, hc, rfl⟩
        have hc2 : t.form.cps.toList[i]? = some c := by rw [Array.getElem?_toList]; exact hc
        have tk := take_snoc hc2
        have cm : c ∈ t.form.cps.toList := List.mem_of_getElem? hc2
        have csplit : cnt (t.form.cps.toList.take (i + 1)) + cnt (t.form.cps.toList.drop (i + 1)) = t.lv := by rw [← cnt_app, List.take_append_drop]; exact hcnt
        have cle : cnt (t.form.cps.toList.take i) ≤ ns.length := by
          rw [tk, cnt_app] at csplit
          omega
        have wsn := wOf_snoc (l := t.form.cps.toList.take i) (c := c) (ns := ns) cle
        have wlen : (wOf (t.form.cps.toList.take i) ns).length ≤ t.form.cps.toList.length := by
          have : ∀ (l : List Nat) (ms : List Str), (wOf l ms).length ≤ l.length := by
            intro l
            induction l with
            | nil => exact fun _ => Nat.le_refl _
            | cons c l ih =>
              intro ms
              unfold wOf
              split
              · cases ms with
                | nil => exact Nat.zero_le _
                | cons m ms => exact Nat.succ_le_succ (ih ms)
              · exact Nat.succ_le_succ (ih ms)
          exact Nat.le_trans (this _ _) (by rw [List.length_take]; omega)
        have hn3 := e3.get0 hnl trivial
        have lanego : lane c = true → ∀ fr : Bool, (V.str ⟨#[c]⟩ : V) = V.str (if fr then "o" else "|") → (c == 111) = fr → ∃ nm, ns[cnt (t.form.cps.toList.take i)]? = some nm ∧ isNm nm = true ∧ wOf (t.form.cps.toList.take (i + 1)) ns = wOf (t.form.cps.toList.take i) ns ++ [(Tr.leaf nm fr).text] ∧ cnt (t.form.cps.toList.take (i + 1)) = cnt (t.form.cps.toList.take i) + 1 := fun hl fr _ hfr => by
          have c1 : cnt [c] = 1 := by simp [LB.cnt, hl]
          have hlt : cnt (t.form.cps.toList.take i) < ns.length := by
            rw [tk, cnt_app, c1] at csplit
            omega
          refine ⟨_, List.getElem?_eq_getElem hlt, hnm _ (List.getElem_mem hlt), ?_, by rw [tk, cnt_app, c1]⟩
          rw [tk, wsn, List.drop_eq_getElem_cons hlt]
          simp only [wOf, if_pos hl, hfr]
        refine ⟨_, rfl, rfl, _, rfl, ?_⟩
        rw [dsgn o_cps]
        have lanestep : ∀ fr : Bool, c = (if fr then 111 else 124) → ∃ nm, ns[cnt (t.form.cps.toList.take i)]? = some nm ∧ isNm nm = true ∧ wOf (t.form.cps.toList.take (i + 1)) ns = wOf (t.form.cps.toList.take i) ns ++ [(Tr.leaf nm fr).text] ∧ cnt (t.form.cps.toList.take (i + 1)) = cnt (t.form.cps.toList.take i) + 1 ∧ (V.str ⟨#[c]⟩ : V) = V.str (if fr then "o" else "|") := fun fr hfr => by
          have hs : (V.str ⟨#[c]⟩ : V) = V.str (if fr then "o" else "|") := by
            cases fr with
            | true => exact congrArg V.str ((sgn_eq o_cps).mpr hfr)
            | false => exact congrArg V.str ((sgn_eq bar_cps).mpr hfr)
          obtain ⟨nm, a1, a2, a3, a4⟩ := lanego (by rw [hfr]; cases fr <;> rfl) fr hs (by rw [hfr]; cases fr <;> rfl)
          exact ⟨nm, a1, a2, a3, a4, hs⟩
        by_cases h1 : c = 111
        · rw [decide_eq_true h1]
          refine iteT ?_
          refine iteT ?_
          obtain ⟨nm, a1, a2, a3, a4, a5⟩ := lanestep true h1
          have a1' : (ns.map V.str)[cnt (t.form.cps.toList.take i)]? = some (.str nm) := by rw [List.getElem?_map, a1]; rfl
          refine ⟨_, rfl, .inl ⟨rfl, _, SqL.of w3⟩, _, rfl, _, rfl, nl, _, _, .str nm, rfl, rfl, SqL.of hn3, atI_nat a1', _, rfl, nm, true, ?_, a2, fun H4 e4 => ?_⟩
          · show [V.str nm, V.str ⟨#[c]⟩] = _
            rw [a5]
          have w4 := e4.get0 w3 trivial
          refine ⟨wl, _, _, rfl, rfl, w4, by rw [List.length_map]; omega, ?_⟩
          refine ⟨_, rfl, _, _, rfl, rfl, ?_⟩
          refine ⟨some (.str ⟨#[c]⟩), ?_, (e3.trans e4).mut (.inl nw) w4 trivial, ?_⟩
          · rw [a4]
            rfl
          · rw [upd_same, a3, List.map_append]
            rfl
        · rw [decide_eq_false h1]
          refine iteF ?_
          refine ⟨_, rfl, rfl, _, rfl, ?_⟩
          rw [dsgn bar_cps]
          by_cases h2 : c = 124
          · rw [decide_eq_true h2]
            refine iteT ?_
            obtain ⟨nm, a1, a2, a3, a4, a5⟩ := lanestep false h2
            have a1' : (ns.map V.str)[cnt (t.form.cps.toList.take i)]? = some (.str nm) := by rw [List.getElem?_map, a1]; rfl
            refine ⟨_, rfl, .inl ⟨rfl, _, SqL.of w3⟩, _, rfl, _, rfl, nl, _, _, .str nm, rfl, rfl, SqL.of hn3, atI_nat a1', _, rfl, nm, false, ?_, a2, fun H4 e4 => ?_⟩
            · show [V.str nm, V.str ⟨#[c]⟩] = _
              rw [a5]
            have w4 := e4.get0 w3 trivial
            refine ⟨wl, _, _, rfl, rfl, w4, by rw [List.length_map]; omega, ?_⟩
            refine ⟨_, rfl, _, _, rfl, rfl, ?_⟩
            refine ⟨some (.str ⟨#[c]⟩), ?_, (e3.trans e4).mut (.inl nw) w4 trivial, ?_⟩
            · rw [a4]
              rfl
            · rw [upd_same, a3, List.map_append]
              rfl
          · rw [decide_eq_false h2]
            refine iteF ?_
            have hl0 : lane c = false := by simp [lane, h1, h2]
            have c0 : cnt [c] = 0 := by simp [LB.cnt, hl0]
            have br : c = 40 ∨ c = 41 := by
              rcases form_signs (t.hgt + 1) (Nat.lt_succ_self _) c cm with q | q
              · rw [hl0] at q; cases q
              · exact q
            have wn : wOf (t.form.cps.toList.take (i + 1)) ns = wOf (t.form.cps.toList.take i) ns ++ [(⟨#[c]⟩ : Str)] := by
              rw [tk, wsn]
              simp [wOf, hl0]
            have cn : cnt (t.form.cps.toList.take (i + 1)) = cnt (t.form.cps.toList.take i) := by rw [tk, cnt_app, c0]; rfl
            have put : ∃ (p4 : Option V), [some (V.str t.form), some (.ref nl), some (.ref wl), some (.int ((cnt (t.form.cps.toList.take i) : Nat) : Int)), some (V.str ⟨#[c]⟩)] = [some (.str t.form), some (.ref nl), some (.ref wl), some (.int ((cnt (t.form.cps.toList.take (i + 1)) : Nat) : Int)), p4] ∧ Stp (TB K) [] H (upd H2' wl (.lst ((wOf (t.form.cps.toList.take i) ns).map V.str ++ [.str ⟨#[c]⟩]))) ∧ (upd H2' wl (.lst ((wOf (t.form.cps.toList.take i) ns).map V.str ++ [.str ⟨#[c]⟩]))) wl = some (.lst ((wOf (t.form.cps.toList.take (i + 1)) ns).map V.str)) := by
              refine ⟨some (.str ⟨#[c]⟩), by rw [cn], e3.mut (.inl nw) w3 trivial, ?_⟩
              rw [upd_same, wn, List.map_append]
              rfl
            refine ⟨_, rfl, rfl, _, rfl, ?_⟩
            rw [dsgn op_cps]
            by_cases h3 : c = 40
            · rw [decide_eq_true h3]
              refine iteT ?_
              refine iteT ?_
              exact ⟨_, rfl, .inl ⟨rfl, _, SqL.of w3⟩, _, rfl, wl, _, _, rfl, rfl, w3, by rw [List.length_map]; omega, put⟩
            · rw [decide_eq_false h3]
              refine iteF ?_
              refine ⟨_, rfl, rfl, _, rfl, ?_⟩
              rw [dsgn cl_cps, decide_eq_true (br.resolve_left h3)]
              refine iteT ?_
              exact ⟨_, rfl, .inl ⟨rfl, _, SqL.of w3⟩, _, rfl, wl, _, _, rfl, rfl, w3, by rw [List.length_map]; omega, put⟩
      · rintro σ H2 ⟨p4, rfl, e3, w3⟩
        rw [hsz, List.take_length, ← sw] at w3
        refine ⟨_, rfl, wl, S, rfl, w3, sok, by omega, by rw [snm]; exact hnd, by rw [snm, hlen]; omega, by omega, e3.tabs hT, fun v H4 e4 n4 => ?_⟩
        intro x dx hx hdx hxd
        have ex2 : Stp (TB K) [] H4 (upd (upd H4 dx (.own x)) x (.ins (CS K) dx [])) := .of fun z o h => ex2of hx hdx hxd h
        have e04 := e3.trans e4
        refine ⟨x, dx, v, S.val, rfl, upd_same, (e04.trans ex2).tabs hT, .inr (n4.keep ex2), fun H5 e5 s5 => ⟨rfl, ?_⟩⟩
        have e45 : Stp (TB K) [] H4 H5 := (ex2.wide.trans e5).drop hx
        exact k _ _ H5 (e04.trans e45) s5 sf) (g_shape_of T)
end
end K3

namespace K3
open PySem PySem.Spec PyProof.Rows L2 LamX LK LB
/-- S is written for t, not too deep, not too long -/
structure Wd (S : Sx) (t : Tr) : Prop where
  ok : S.ok
  val : S.val = t
  nms : S.nms.Perm t.under
  dep : S.dep ≤ 2 * t.hgt + 1
  len : S.words.length + 4 ≤ 9 * t.lv
section
variable {P : Program} {w : World} {K : PySem.W.Frag} {mg : Str → Option Value} {base : Heap}
def spShak (Tb : TBs) (n : Nat) : Sp := fun vs H Q _ => ∃ (b l : Addr) (v : V) (t : Tr), vs = [.ref b, v] ∧ RT H v t ∧ t.hgt < n ∧ t.good ∧ t.norm ∧ t.under.Nodup ∧ t.lv ≤ 60 ∧ Bg H b l ∧
  ∀ S H', Wd S t → Stp Tb [b] H H' → Bg H' b l → Q (.str S.page) H'
theorem cal_shak (T : Tx K mg base) : ∀ n, Cal P w K mg base (n + 70) "_law_shaken" (spShak (TB K) n)
  | 0 => cal_mk (fn_law_shaken T (fun vs H Q E ⟨b, l, v, t, e, _⟩ => by rw [e]; rfl) fun A outer s H vs Q E hr ⟨b, l, v, t, e, _, h, _⟩ => absurd h (Nat.not_lt_zero _)) (g_law_shaken T)
  | n + 1 => cal_mk (fn_law_shaken T (k := n + 70) (fun vs H Q E ⟨b, l, v, t, e, _⟩ => by rw [e]; rfl) fun A outer s H vs Q E hr h => by
    obtain ⟨b, l, v, t, rfl, hR, hh, hg, hn, hnd, hl, hB, k⟩ := h
    have c_law_shaken : Cal P w K mg base (n + 70) "_law_shaken" (spShak (TB K) n) := cal_shak T n
    have c_law_text : Cal P w K mg base 64 "_law_text" (spOne (TB K) 63 gText) := cal_text T 63
    have c_law_mixed : Cal P w K mg base 3 "_law_mixed" (spMixed (TB K)) := cal_mixed T
    have c_law_draw : Cal P w K mg base 2 "_law_draw" (spDraw (TB K)) := cal_draw T
    refine ⟨_, (pss_cons (ps_set (i := 2) sc_law_shaken.nd rfl (Or.inl rfl) (pe_c c_law_text hr (by omega) rfl (pa_cons (pv 1) pa_nil)))
  (pss_cons (ps_if (pt_cmpR op_eq (pe_ix ix_tup (pv 1) pe_int (fun _ _ => rfl)) pe_str (nomark _)) (pss_one (ps_set (i := 2) sc_law_shaken.nd rfl (Or.inl rfl) (pe_op op_add_str (pe_op op_add_str pe_str (pe_join pe_str (pe_lc (own := [("part", 3)]) (g := gName 3) (tt := tYes) rfl sc_law_shaken.nd (pi_list (pe_c c_law_mixed hr (by omega) rfl (pa_cons (pv 0) (pa_cons (pe_ix ix_tup (pv 1) pe_int (fun _ _ => rfl)) pa_nil)))) (blkOk_by (own := [("part", 3)]) (N := N_law_shaken) (sc := defScope s_law_shaken) (by decide +kernel)) (fun _ _ _ _ _ => (pg_name (i := 3) sc_law_shaken.nd rfl (Or.inl rfl))) (fun _ _ _ _ _ => pts_nil) (fun _ _ _ _ _ => (pe_c c_law_shaken hr (by omega) rfl (pa_cons (pv 0) (pa_cons (pv 3) pa_nil))))))) pe_str))) pss_nil)
  (pss_one (ps_ret (pe_ifExp (pt_cmpR op_eq (pe_c c_law_draw hr (by omega) rfl (pa_cons (pv 0) (pa_cons pe_int pa_nil))) pe_int (nomark _)) (pe_op op_add_str (pe_op op_add_str pe_str (pv 2)) pe_str) (pv 2)))))), ?_⟩
    have hz := zL
    have y2 : ("( " : Str).length = 2 := by decide
    have y3 : (" )" : Str).length = 2 := by decide
    have hhl := hgt_lv hg
    have hp := lv_pos hg
    have dz : ∀ z : Int, decide (V.int z = V.int 8) = decide (z = 8) := fun z => decide_eq_decide.mpr ⟨fun e => by injection e, fun e => by rw [e]⟩
    refine ⟨_, rfl, v, t, rfl, hR, by omega, hg, by omega, fun v' H1 e1 g1 => ?_⟩
    subst g1
    have B1 := hB.step e1
    have R1 := hR.tup (e1.tup lsts_nil)
    cases R1 with
    | @leaf a nm fr ha =>
      have hne : (decide (V.str nm = V.str "")) = false := decide_eq_false (fun e => isNm_ne hg (by injection e))
      refine ⟨_, rfl, a, _, 0, .str nm, rfl, rfl, SqT.of ha, rfl, rfl, _, rfl, ?_⟩
      rw [hne]
      refine iteF ?_
      refine ⟨_, rfl, b, l, 9, rfl, by decide, by decide, B1, fun d H2 hd0 hd1 e2 B2 => ?_⟩
      refine ⟨rfl, _, rfl, ?_⟩
      rw [dz]
      have ll := leafW_len (fr := fr) (show isNm nm = true from hg)
      by_cases h8 : d = 8
      · rw [decide_eq_true h8]
        refine iteT ?_
        refine ⟨_, rfl, _, _, rfl, rfl, by omega, _, _, rfl, rfl, by rw [lenA]; omega, ?_⟩
        have e : ("( " ++ (Tr.leaf nm fr).text ++ " )" : Str) = (Sx.br [.leaf nm fr]).page := page_one (.leaf nm fr)
        rw [e]
        exact k _ H2 ⟨⟨by simp, hg, trivial⟩, rfl, .refl _, (by decide : 1 + max 0 0 ≤ 2 * 0 + 1), (by decide : 3 + 4 ≤ 9 * 1)⟩ (e1.wide.trans e2) B2
      · rw [decide_eq_false h8]
        refine iteF ?_
        exact ⟨_, rfl, k (.leaf nm fr) H2 ⟨hg, rfl, .refl _, Nat.zero_le _, (by decide : 1 + 4 ≤ 9 * 1)⟩ (e1.wide.trans e2) B2⟩
    | @grp a q ws ps ha hq hps =>
      have nd2 : (underL ps).Nodup := (sortS_perm _).nodup_iff.mp hnd
      have lps := len_lv hg.2
      have hl2 : lvL ps ≤ 60 := hl
      have hws := hps.length
      refine ⟨_, rfl, a, _, 0, .str "", rfl, rfl, SqT.of ha, rfl, rfl, _, rfl, ?_⟩
      refine iteT ?_
      refine ⟨⟨" ", rfl⟩, _, rfl, _, rfl, a, _, 1, .ref q, rfl, rfl, SqT.of ha, rfl, b, l, q, ws, rfl, .inr hq, by omega, B1, fun p6 ys H2 pm e2 B2 np6 h6 => ?_⟩
      obtain ⟨us, ru, pu⟩ := RTs.perm pm hps
      have ru2 := ru.tup (e2.tup B1.lsts)
      have hul : us.length = ps.length := pu.length_eq
      have hyl := ru2.length
      have nb6 := B1.nb np6
      refine ⟨p6, rfl, ⟨_, SqL.of h6⟩, fun D hD => ?_⟩
      have nD := B2.nb (.of hD)
      refine lc_accY (T := TB K) (B := [b]) walk_list (fun i x => ys[i]? = some x) (fun i H x H' h => h) (fun H => Bg H b l) .refl hD (by simpa using nD.1.symm) (by omega)
        (fun i H acc => ∃ xs : List Sx, acc = xs.map (fun S => V.str S.page) ∧ xs.length = i ∧ ∀ (j : Nat) (x : Sx) (u : Tr), xs[j]? = some x → us[j]? = some u → Wd x u) (fun H => ⟨[], rfl, rfl, fun j x u h => by simp at h⟩) (fun i H H' acc _ h => h) B2 (fun H o B => B.upd nD.1 nD.2)
        (fun H e _ => SqL.of (e.get h6 trivial (by simpa using nb6.1.symm))) ?_ ?_
      · intro i x H3 Nx hi hx e3 B3 kk
        obtain ⟨u, hu, rx⟩ := ru2.get hx
        have hm := pu.mem_iff.mp (List.mem_of_getElem? hu)
        have h3 : 1 + hgtL ps < n + 1 := hh
        have := hgtL_mem hm
        have := lvL_mem hm
        refine ⟨rfl, _, rfl, _, rfl, b, l, x, u, rfl, rx.tup (e3.tup B2.lsts), by omega, goodL_mem.mp hg.2 u hm, normL_mem.mp hn.2 u hm, nodup_part hm nd2, by omega, B3, fun S H4 wS e4 B4 => kk _ _ e4 B4 fun acc _ ⟨xs, h1, h2, h4⟩ => ⟨xs ++ [S], by rw [h1, List.map_append]; rfl, by rw [List.length_append, h2]; rfl, fun j y v hy hv => ?_⟩⟩
        rcases Nat.lt_or_ge j xs.length with q | q
        · rw [List.getElem?_append_left q] at hy
          exact h4 j y v hy hv
        · have hji : j = xs.length := by
            rcases Nat.eq_or_lt_of_le q with q | q
            · exact q.symm
            · rw [List.getElem?_eq_none (by rw [List.length_append]; simp; omega)] at hy
              cases hy
          subst hji
          rw [List.getElem?_append_right (Nat.le_refl _), Nat.sub_self] at hy
          simp at hy
          subst hy
          rw [h2, hu] at hv
          injection hv with hv
          rw [← hv]
          exact wS
      · intro H3 zs e3 B3 hD3 ⟨xs, h1, h2, h4⟩
        subst h1
        rw [hyl] at h2
        obtain ⟨w1, w2, w3, w4, w5⟩ := Wr.br (xs := xs) (us := us) (ps := ps) (d := 2 * hgtL ps + 1) h2 (fun j x u hx hu => by
          have W := h4 j x u hx hu
          have := hgtL_mem (pu.mem_iff.mp (List.mem_of_getElem? hu))
          have := W.dep
          exact ⟨W.ok, W.val, W.nms, by omega, W.len⟩) pu hg hn hnd
        have hxne : xs ≠ [] := w1.1
        have pagel : ∀ x ∈ xs, x.page.length ≤ 10000 := fun x m => by
          obtain ⟨j, hj⟩ := List.mem_iff_getElem?.mp m
          have hjl : j < xs.length := by
            rcases Nat.lt_or_ge j xs.length with q | q
            · exact q
            · rw [List.getElem?_eq_none q] at hj; cases hj
          obtain ⟨u, hu⟩ : ∃ u, us[j]? = some u := ⟨_, List.getElem?_eq_getElem (by omega : j < us.length)⟩
          have W := h4 j x u hj hu
          have := lvL_mem (pu.mem_iff.mp (List.mem_of_getElem? hu))
          have := W.len
          exact page_len W.ok (by omega)
        have hsum := sum_le (k := 10000) (ws := xs.map Sx.page) fun w m => by
          obtain ⟨x, mx, rfl⟩ := List.mem_map.mp m
          exact pagel x mx
        rw [List.length_map] at hsum
        have hJ := lenJ " " (xs.map Sx.page)
        have y1 : (" " : Str).length = 1 := by decide
        rw [List.length_map, y1] at hJ
        have emap : xs.map (fun S => V.str S.page) = (xs.map Sx.page).map V.str := by rw [List.map_map]; rfl
        rw [emap] at hD3
        refine ⟨" ", D, xs.map Sx.page, rfl, rfl, .inl (SqL.of hD3), by rw [List.length_map, y1]; omega, "( ", _, rfl, rfl, by omega, _, " )", rfl, rfl, by rw [lenA]; omega, ?_⟩
        rw [page_br hxne]
        have e03 : Stp (TB K) [b] H H3 := (e1.wide.trans e2).trans e3
        refine ⟨_, rfl, b, l, 9, rfl, by decide, by decide, B3, fun d H5 hd0 hd1 e5 B5 => ?_⟩
        refine ⟨rfl, _, rfl, ?_⟩
        rw [dz]
        have hpl := page_len w1 (show (Sx.br xs).words.length ≤ 1000 by omega)
        have ehg : (Tr.grp ps).hgt = 1 + hgtL ps := rfl
        by_cases h8 : d = 8
        · rw [decide_eq_true h8]
          refine iteT ?_
          refine ⟨_, rfl, _, _, rfl, rfl, by omega, _, _, rfl, rfl, by rw [lenA]; omega, ?_⟩
          rw [page_one]
          refine k _ H5 ⟨⟨by simp, w1, trivial⟩, ?_, ?_, ?_, ?_⟩ (e03.trans e5) B5
          · show bra [(Sx.br xs).val] = _
            rw [w2]
            rfl
          · show ((Sx.br xs).nms ++ []).Perm _
            rw [List.append_nil]
            exact w3
          · show 1 + max (Sx.br xs).dep 0 ≤ _
            omega
          · show ((("(" : Str)) :: (((Sx.br xs).words ++ []) ++ [((")" : Str))])).length + 4 ≤ _
            rw [List.append_nil, List.length_cons, List.length_append]
            simp only [List.length_cons, List.length_nil]
            omega
        · rw [decide_eq_false h8]
          refine iteF ?_
          exact ⟨_, rfl, k _ H5 ⟨w1, w2, w3, by omega, by omega⟩ (e03.trans e5) B5⟩) (g_law_shaken T)

def spLike : Sp := fun vs H Q _ => ∃ (a b : Str), vs = [.str a, .str b] ∧ Q (.bl (decide (a = b))) H
theorem cal_like (T : Tx K mg base) : Cal P w K mg base 1 "_law_like" spLike :=
  cal_mk (fn_law_like T (k := 0) (fun vs H Q E ⟨a, b, e, _⟩ => by rw [e]; rfl) fun A outer s H vs Q E hr h => by
    obtain ⟨a, b, rfl, k⟩ := h
    refine ⟨_, (pss_cons (ps_if (pt_val (pe_callB call_isi (by rfl) (n_isinstance T) (by decide +kernel) (pa_cons (pv 1) (pa_cons (pe_bltn (v := .ty "bool") (u := .type "bool") (by rfl) (n_bool T) (by decide +kernel) rfl) pa_nil)))) pss_never pss_nil)
  (pss_cons (ps_if (pt_val (pe_callB call_isi (by rfl) (n_isinstance T) (by decide +kernel) (pa_cons (pv 1) (pa_cons (pe_bltn (v := .ty "int") (u := .type "int") (by rfl) (n_int T) (by decide +kernel) rfl) pa_nil)))) pss_never pss_nil)
  (pss_cons (ps_if (pt_val (pe_callB call_isi (by rfl) (n_isinstance T) (by decide +kernel) (pa_cons (pv 1) (pa_cons (pe_bltn (v := .ty "str") (u := .type "str") (by rfl) (n_str T) (by decide +kernel) rfl) pa_nil)))) (pss_one (ps_ret (pe_and (pe_callB call_isi (by rfl) (n_isinstance T) (by decide +kernel) (pa_cons (pv 0) (pa_cons (pe_bltn (v := .ty "str") (u := .type "str") (by rfl) (n_str T) (by decide +kernel) rfl) pa_nil))) (pe_one (pe_cmpR op_eq (pv 0) (pv 1) (nomark _)))))) pss_nil) pss_never))), ?_⟩
    refine ⟨_, rfl, .str b, .ty "bool", .type "str", .type "bool", false, rfl, .ty _, .base (.str _), kit_ty (by decide +kernel), _, rfl, ?_⟩
    refine iteF ?_
    refine ⟨_, rfl, .str b, .ty "int", .type "str", .type "int", false, rfl, .ty _, .base (.str _), kit_ty (by decide +kernel), _, rfl, ?_⟩
    refine iteF ?_
    refine ⟨_, rfl, .str b, .ty "str", .type "str", .type "str", true, rfl, .ty _, .base (.str _), rfl, _, rfl, ?_⟩
    refine iteT ?_
    refine ⟨_, rfl, .str a, .ty "str", .type "str", .type "str", true, rfl, .ty _, .base (.str _), rfl, _, rfl, ?_⟩
    refine iteT ?_
    refine ⟨_, rfl, _, rfl, rfl, ?_⟩
    have e : decide (V.str a = V.str b) = decide (a = b) := decide_eq_decide.mpr ⟨fun e => by injection e, fun e => by rw [e]⟩
    rw [e]
    exact k) (g_law_like T)
end
end K3

namespace K3
open PySem PySem.Spec PyProof.Rows L2 LamX LK LB
theorem TOk.turn {t : Tr} {f : Str → Str} (o : TOk t) (h1 : ∀ w ∈ t.under, isNm (f w) = true) (h2 : (t.under.map f).Nodup) : TOk (t.turn f) :=
  ⟨turn_good o.good h1, turn_norm, (turn_under f t).nodup_iff.mpr h2, by rw [turn_lv]; exact o.lv⟩
theorem Rd1.of {S : Sx} {t : Tr} (w : Wd S t) (o : TOk t) (h : t.hgt < 4) : Rd1 S t := by
  have h1 := w.nms.length_eq
  rw [under_len] at h1
  have h2 := o.lv
  have h3 := w.len
  have h4 := w.dep
  exact ⟨w.ok, w.val, w.nms.nodup_iff.mpr o.nd, by omega, by omega, by omega⟩
theorem Rd1.text {t : Tr} (o : TOk t) : Rd1 t.sx t ∧ t.sx.page = t.text := by
  obtain ⟨a, b, c, d, e, f⟩ := sx_wr (t.hgt + 1) (Nat.lt_succ_self _) o.good o.norm o.nd
  have h1 := c.length_eq
  rw [under_len] at h1
  have h2 := o.lv
  have h3 := o.hgt
  exact ⟨⟨a, b, c.nodup_iff.mpr o.nd, by omega, by omega, by omega⟩, f⟩
section
variable {P : Program} {w : World} {K : PySem.W.Frag} {mg : Str → Option Value} {base : Heap}
/-- the trees at tl, the shapes of the first n of them at fl -/
structure Fr (K : PySem.W.Frag) (Tb : TBs) (H H' : Hp) (b l tl fl : Addr) (vs : List V) (ts : List Tr) (ws : List V) (n : Nat) : Prop where
  e : Stp Tb [b] H H'
  B : Bg H' b l
  tl : H' tl = some (.lst vs)
  r : RTs H' vs ts
  fl : H' fl = some (.lst ws)
  len : ws.length = n
  s : ∀ (j : Nat) (v : V) (t : Tr), ws[j]? = some v → ts[j]? = some t → SD K H' v t
theorem Fr.step {K : PySem.W.Frag} {Tb : TBs} {H H1 H2 : Hp} {b l tl fl : Addr} {vs ws : List V} {ts : List Tr} {n : Nat} (F : Fr K Tb H H1 b l tl fl vs ts ws n) (e : Stp Tb [b] H1 H2) (B : Bg H2 b l) (n1 : tl ≠ b) (n2 : fl ≠ b) : Fr K Tb H H2 b l tl fl vs ts ws n :=
  ⟨F.e.trans e, B, e.get F.tl trivial (by simpa using n1), F.r.tup (e.tup F.B.lsts), e.get F.fl trivial (by simpa using n2), F.len, fun j v t h1 h2 => (F.s j v t h1 h2).keep e F.B.lsts⟩
theorem Fr.step0 {K : PySem.W.Frag} {Tb : TBs} {H H1 H2 : Hp} {b l tl fl : Addr} {vs ws : List V} {ts : List Tr} {n : Nat} (F : Fr K Tb H H1 b l tl fl vs ts ws n) (e : Stp Tb [] H1 H2) (n1 : tl ≠ b) (n2 : fl ≠ b) : Fr K Tb H H2 b l tl fl vs ts ws n := F.step e.wide (F.B.step e) n1 n2
def spLaw (K : PySem.W.Frag) (Tb : TBs) : Sp := fun vs H Q _ => ∃ (sc : Addr) (xs : List Int), vs = [.ref sc] ∧ (∀ H', Stp Tb [] H H' → SqL K H' sc (xs.map V.int)) ∧ Tabs Tb H ∧ ∀ H', Q (.bl true) H'
theorem law_body (T : Tx K mg base) (A : Around) (outer : List Env) (s : Shared) (H : Hp) (vs : List V) (Q : VK) (E : XK) (hr : Room 136 (A.deeper (envOfC "law" (defScope s_law) s.heap.objs.size (He.fAd K d_law.at_) (.ref (He.cT K d_law.at_).1)))) (h : spLaw K (TB K) vs H Q E) :
    ∃ t, PSs (cxOf L2.CX0 P w K mg base N_law "law" (defScope s_law) (He.fAd K d_law.at_) (.ref (He.cT K d_law.at_).1) A outer s H E).nox (defBody s_law) t ∧ t { nx := fun _ H' => Q .non H', rt := Q } (L2.start N_law vs) H := by
    obtain ⟨sc, xs, rfl, hsc, hT, k⟩ := h
    have c_law_bag : Cal P w K mg base 1 "_law_bag" (spBag K (TB K)) := cal_bag T
    have c_law_shape : Cal P w K mg base 71 "_law_shape" (spShape (TB K)) := cal_shape T
    have c_law_under : Cal P w K mg base 64 "_law_under" (spUnder (TB K) 63) := cal_under T 63
    have c_law_book : Cal P w K mg base 5 "_law_book" (spBook (TB K)) := cal_book T
    have c_law_turned : Cal P w K mg base 133 "_law_turned" (spTurned (TB K) 63) := cal_turned T 63
    have c_law_change : Cal P w K mg base 135 "_law_change" (spMoved (TB K)) := cal_change T
    have c_law_leaves : Cal P w K mg base 3 "_law_leaves" (spLeaves (TB K)) := cal_leaves T
    have c_law_tree : Cal P w K mg base 70 "_law_tree" (spTree (TB K)) := cal_tree T
    have c_law_high : Cal P w K mg base 64 "_law_high" (spOne (TB K) 63 gHigh) := cal_high T 63
    have c_law_text : Cal P w K mg base 64 "_law_text" (spOne (TB K) 63 gText) := cal_text T 63
    have c_law_shaken : Cal P w K mg base 133 "_law_shaken" (spShak (TB K) 63) := cal_shak T 63
    have m_Shape : Mak P w K mg base 15 "Shape" (CS K) (spShp K (TB K)) := cal_shp T
    have c_law_form : Cal P w K mg base 73 "_law_form" (spOneT (TB K) 63 gForm) := cal_form T 63
    have c_law_like : Cal P w K mg base 1 "_law_like" spLike := cal_like T
    have c_law_names : Cal P w K mg base 4 "_law_names" (spNames (TB K)) := cal_names T
    have c_shape_of : Cal P w K mg base 17 "shape_of" (spShapeOf K (TB K)) := cal_shapeof T
    have c_law_match : Cal P w K mg base 64 "_law_match" (spMatch (TB K) 63) := cal_match T 63
    obtain ⟨fde, FE, _, BE⟩ := fn_sheq (P := P) (w := w) T
    refine ⟨_, (pss_cons (ps_set (i := 1) sc_law.nd rfl (Or.inl rfl) (pe_c c_law_bag hr (by omega) rfl (pa_cons (pv 0) pa_nil)))
  (pss_cons (ps_set (i := 2) sc_law.nd rfl (Or.inl rfl) (pe_c c_law_shape hr (by omega) rfl (pa_cons (pv 1) pa_nil)))
  (pss_cons (ps_set (i := 3) sc_law.nd rfl (Or.inl rfl) (pe_c c_law_turned hr (by omega) rfl (pa_cons (pv 2) (pa_cons (pe_c c_law_book hr (by omega) rfl (pa_cons (pv 1) (pa_cons (pe_c c_law_under hr (by omega) rfl (pa_cons (pv 2) pa_nil)) pa_nil))) pa_nil))))
  (pss_cons (ps_set (i := 4) sc_law.nd rfl (Or.inl rfl) (pe_c c_law_change hr (by omega) rfl (pa_cons (pv 1) (pa_cons (pv 3) pa_nil))))
  (pss_cons (ps_set (i := 5) sc_law.nd rfl (Or.inl rfl) (pe_c c_law_change hr (by omega) rfl (pa_cons (pv 1) (pa_cons (pe_c c_law_turned hr (by omega) rfl (pa_cons (pv 4) (pa_cons (pe_c c_law_book hr (by omega) rfl (pa_cons (pv 1) (pa_cons (pe_c c_law_under hr (by omega) rfl (pa_cons (pv 4) pa_nil)) pa_nil))) pa_nil))) pa_nil))))
  (pss_cons (ps_set (i := 6) sc_law.nd rfl (Or.inl rfl) (pe_lst (pa_cons (pv 2) (pa_cons (pv 3) (pa_cons (pv 4) (pa_cons (pv 5) (pa_cons (pe_c c_law_tree hr (by omega) rfl (pa_cons (pv 1) (pa_cons (pe_c c_law_leaves hr (by omega) rfl (pa_cons (pv 1) (pa_cons (pe_c c_law_under hr (by omega) rfl (pa_cons (pv 2) pa_nil)) pa_nil))) pa_nil))) pa_nil)))))))
  (pss_cons (ps_set (i := 7) sc_law.nd rfl (Or.inl rfl) (pe_lst pa_nil))
  (pss_cons (ps_for PassesOwn.never rfl (pi_list (pv 6)) (pg_name (i := 8) sc_law.nd rfl (Or.inl rfl)) (pss_cons (ps_set (i := 9) sc_law.nd rfl (Or.inl rfl) (pe_ifExp (pt_cmpR op_lt (pe_c c_law_high hr (by omega) rfl (pa_cons (pv 8) pa_nil)) pe_int (nomark _)) (pe_c c_law_shaken hr (by omega) rfl (pa_cons (pv 1) (pa_cons (pv 8) pa_nil))) (pe_c c_law_text hr (by omega) rfl (pa_cons (pv 8) pa_nil))))
  (pss_one (ps_expr (pe_bm PySem.F.plainAttrs_list PySem.F.slot_list_append PySem.F.type_list_append mt_append (pv 7) (pa_cons (pe_mk m_Shape hr (by omega) rfl (pa_cons (pv 9) pa_nil)) pa_nil))))))
  (pss_cons (ps_for PassesOwn.never rfl (pi_range1 (by rfl) (n_range T) (pa_cons (pe_callB call_len_seq (by rfl) (n_len T) (by decide +kernel) (pa_cons (pv 6) pa_nil)) pa_nil)) (pg_name (i := 10) sc_law.nd rfl (Or.inl rfl)) (pss_cons (ps_set (i := 11) sc_law.nd rfl (Or.inl rfl) (pe_fld (pe_ix ix_list (pv 7) (pv 10) (fun _ _ => rfl)) rfl))
  (pss_cons (ps_if (pt_not (pt_val (pe_c c_law_like hr (by omega) rfl (pa_cons (pv 11) (pa_cons (pe_c c_law_form hr (by omega) rfl (pa_cons (pe_ix ix_list (pv 6) (pv 10) (fun _ _ => rfl)) pa_nil)) pa_nil))))) (pss_one (ps_ret pe_bl)) pss_nil)
  (pss_cons (ps_set (i := 12) sc_law.nd rfl (Or.inl rfl) (pe_c c_shape_of hr (by omega) rfl (pa_cons (pv 11) (pa_cons (pe_c c_law_names hr (by omega) rfl (pa_cons (pv 1) (pa_cons (pe_callB call_len_seq (by rfl) (n_len T) (by decide +kernel) (pa_cons (pe_c c_law_under hr (by omega) rfl (pa_cons (pe_ix ix_list (pv 6) (pv 10) (fun _ _ => rfl)) pa_nil)) pa_nil)) pa_nil))) pa_nil))))
  (pss_cons (ps_if (pt_not (pt_val (pe_c c_law_like hr (by omega) rfl (pa_cons (pe_fld (pv 12) rfl) (pa_cons (pv 11) pa_nil))))) (pss_one (ps_ret pe_bl)) pss_nil)
  (pss_one (ps_for PassesOwn.never rfl (pi_range1 (by rfl) (n_range T) (pa_cons (pe_callB call_len_seq (by rfl) (n_len T) (by decide +kernel) (pa_cons (pv 6) pa_nil)) pa_nil)) (pg_name (i := 13) sc_law.nd rfl (Or.inl rfl)) (pss_cons (ps_if (pt_cmpR op_ne (pe_cmpR op_eq (pe_fld (pe_ix ix_list (pv 7) (pv 13) (fun _ _ => rfl)) rfl) (pv 11) (nomark _)) (pe_c c_law_match hr (by omega) rfl (pa_cons (pe_ix ix_list (pv 6) (pv 10) (fun _ _ => rfl)) (pa_cons (pe_ix ix_list (pv 6) (pv 13) (fun _ _ => rfl)) pa_nil))) (nomark _)) (pss_one (ps_ret pe_bl)) pss_nil)
  (pss_one (ps_if (pt_cmpR op_ne (pe_cmpR (op_eqOwn FE ((me_Shape_eq T).at_) ((me_Shape_eq T).fn) BE pass0 (hr.mono (by omega))) (pe_ix ix_list (pv 7) (pv 10) (fun _ _ => rfl)) (pe_ix ix_list (pv 7) (pv 13) (fun _ _ => rfl)) (nomark _)) (pe_cmpR op_eq (pe_c c_law_text hr (by omega) rfl (pa_cons (pe_ix ix_list (pv 6) (pv 10) (fun _ _ => rfl)) pa_nil)) (pe_c c_law_text hr (by omega) rfl (pa_cons (pe_ix ix_list (pv 6) (pv 13) (fun _ _ => rfl)) pa_nil)) (nomark _)) (nomark _)) (pss_one (ps_ret pe_bl)) pss_nil))))))))))
  (pss_one (ps_ret (pe_cmpR op_eq (pe_fld (pe_ix ix_list (pv 7) pe_int (fun _ _ => rfl)) rfl) (pe_fld (pe_ix ix_list (pv 7) pe_int (fun _ _ => rfl)) rfl) (nomark _))))))))))))), ?_⟩
    refine ⟨_, rfl, sc, xs, rfl, hsc, fun b l H1 e1 nb nl B1 => ?_⟩
    refine ⟨_, rfl, b, l, rfl, e1.tabs hT, B1, fun v0 t0 H2 e2 B2 r0 o0 => ?_⟩
    have E2 : Stp (TB K) [b] H1 H2 := e2
    have h0 := o0.hgt
    have l0 := o0.lv
    -- like
    refine ⟨_, rfl, _, rfl, _, rfl, v0, t0, rfl, r0, by omega, o0.good, by omega, fun p3 H3 np3 e3 h3 => ?_⟩
    have nb3 := B2.nb np3
    have B3 := B2.step e3
    refine ⟨b, l, p3, _, rfl, h3, nb3.1.symm, by rw [under_len]; omega, o0.nd, under_nm o0.good, B3, fun d kvs H4 e4 B4 nd4 hd4 hf4 hn4 => ?_⟩
    have r04 := (r0.tup (e3.tup lsts_nil)).tup (e4.tup B3.lsts)
    have T4 : Tabs (TB K) H4 := (((e1.wide.trans e2).trans e3.wide).trans e4).tabs hT
    refine ⟨v0, t0, d, kvs, bookF kvs, rfl, r04, by omega, o0.good, by omega, T4, hd4, hf4, fun v1 H5 e5 r1 => ?_⟩
    have o1 : TOk (t0.turn (bookF kvs)) := o0.turn (fun x m => (hf4 x m).2) hn4
    have f01 : (t0.turn (bookF kvs)).form = t0.form := turn_form _ _
    generalize t0.turn (bookF kvs) = t1 at r1 o1 f01
    have B5 := B4.step e5
    have r05 := r04.tup (e5.tup lsts_nil)
    have T5 := e5.tabs T4
    -- near
    refine ⟨_, rfl, _, rfl, b, l, v1, t1, rfl, r1, o1, T5, B5, fun v2 t2 H6 e6 B6 r2 o2 _ => ?_⟩
    have r06 := r05.tup (e6.tup B5.lsts)
    have r16 := r1.tup (e6.tup B5.lsts)
    have T6 := e6.tabs T5
    have h2 := o2.hgt
    have l2 := o2.lv
    -- far
    refine ⟨_, rfl, _, rfl, _, rfl, _, rfl, v2, t2, rfl, r2, by omega, o2.good, by omega, fun p7 H7 np7 e7 h7 => ?_⟩
    have nb7 := B6.nb np7
    have B7 := B6.step e7
    refine ⟨b, l, p7, _, rfl, h7, nb7.1.symm, by rw [under_len]; omega, o2.nd, under_nm o2.good, B7, fun d8 kv8 H8 e8 B8 nd8 hd8 hf8 hn8 => ?_⟩
    have e68 : Stp (TB K) [b] H6 H8 := e7.wide.trans e8
    have r28 := r2.tup (e68.tup B6.lsts)
    have T8 := e68.tabs T6
    refine ⟨v2, t2, d8, kv8, bookF kv8, rfl, r28, by omega, o2.good, by omega, T8, hd8, hf8, fun v9 H9 e9 r9 => ?_⟩
    have o9 : TOk (t2.turn (bookF kv8)) := o2.turn (fun x m => (hf8 x m).2) hn8
    generalize t2.turn (bookF kv8) = t9 at r9 o9
    have B9 := B8.step e9
    have e69 : Stp (TB K) [b] H6 H9 := e68.trans e9.wide
    have T9 := e9.tabs T8
    refine ⟨b, l, v9, t9, rfl, r9, o9, T9, B9, fun v3 t3 H10 e10 B10 r3 o3 _ => ?_⟩
    have e610 := e69.trans e10
    have r010 := r06.tup (e610.tup B6.lsts)
    have r110 := r16.tup (e610.tup B6.lsts)
    have r210 := r2.tup (e610.tup B6.lsts)
    have T10 := e10.tabs T9
    -- the trees
    refine ⟨_, rfl, _, rfl, _, rfl, _, rfl, _, rfl, _, rfl, _, rfl, v0, t0, rfl, r010, by omega, o0.good, by omega, fun p11 H11 np11 e11 h11 => ?_⟩
    have nb11 := B10.nb np11
    have B11 := B10.step e11
    refine ⟨b, l, p11, _, rfl, h11, nb11.1.symm, by rw [under_len]; omega, under_nm o0.good, B11, fun p12 us12 ts12 H12 e12 B12 np12 h12 r12 u12 g12 n12 => ?_⟩
    have nb12 := B11.nb np12
    have lv12 : lvL ts12 = t0.lv := by rw [← underL_len, u12, under_len]
    have T12 := e12.tabs (e11.tabs T10)
    have pos0 := lv_pos o0.good
    have one12 : 1 ≤ ts12.length := by
      cases ts12 with
      | nil => simp only [lvL] at lv12; omega
      | cons t ts => simp
    refine ⟨b, l, p12, us12, ts12, rfl, h12, r12, nb12.1.symm, g12, n12, one12, by omega, T12, B12, fun v4 t4 H13 e13 B13 r4 g4 n4 q4 => ?_⟩
    have o4 : TOk t4 := by
      refine ⟨g4, n4, ?_, ?_⟩
      · rw [u12] at q4
        exact q4.nodup_iff.mpr o0.nd
      · have := q4.length_eq
        rw [under_len, underL_len, lv12] at this
        omega
    have e1013 : Stp (TB K) [b] H10 H13 := (e11.wide.trans e12).trans e13
    have e013 : Stp (TB K) [b] H H13 := ((((((e1.wide.trans e2).trans e3.wide).trans e4).trans e5.wide).trans e6).trans e610).trans e1013
    have T13 := e013.tabs hT
    have R13 : RTs H13 [v0, v1, v2, v3, v4] [t0, t1, t2, t3, t4] := .cons (r010.tup (e1013.tup B10.lsts)) (.cons (r110.tup (e1013.tup B10.lsts)) (.cons (r210.tup (e1013.tup B10.lsts)) (.cons (r3.tup (e1013.tup B10.lsts)) (.cons r4 .nil))))
    have oall : ∀ t ∈ [t0, t1, t2, t3, t4], TOk t := by
      intro t m
      simp only [List.mem_cons, List.not_mem_nil, or_false] at m
      rcases m with rfl | rfl | rfl | rfl | rfl
      · exact o0
      · exact o1
      · exact o2
      · exact o3
      · exact o4
    have f01' : ∀ a c, [t0, t1, t2, t3, t4][0]? = some a → [t0, t1, t2, t3, t4][1]? = some c → a.form = c.form := by
      intro a c ha hc
      injection ha with ha
      injection hc with hc
      rw [← ha, ← hc, f01]
    have tsl : [t0, t1, t2, t3, t4].length = 5 := rfl
    have vsl : [v0, v1, v2, v3, v4].length = 5 := rfl
    refine ⟨(by show 5 ≤ sizeLine; decide), fun tl htl => ?_⟩
    have e14 : Stp (TB K) [] H13 (upd H13 tl (.lst [v0, v1, v2, v3, v4])) := .new htl
    have nbt := B13.nb (.of htl)
    refine ⟨(by show 0 ≤ sizeLine; decide), fun fl hfl => ?_⟩
    have e15 : Stp (TB K) [] H13 (upd (upd H13 tl (.lst [v0, v1, v2, v3, v4])) fl (.lst [])) := e14.alloc hfl
    have htf : tl ≠ fl := ne_of_none upd_same hfl
    have nbf := (B13.step e14).nb (.of hfl)
    have nfl : Nw H fl := (Nw.of hfl).backB (e013.trans e14.wide) (by simpa using nbf.1.symm)
    generalize [v0, v1, v2, v3, v4] = V5 at R13 vsl e14 e15 ⊢
    generalize [t0, t1, t2, t3, t4] = T5' at R13 oall f01' tsl
    have F15 : Fr K (TB K) H (upd (upd H13 tl (.lst V5)) fl (.lst [])) b l tl fl V5 T5' [] 0 := ⟨e013.trans e15.wide, B13.step e15, by rw [upd_ne htf]; exact upd_same, R13.tup (e15.tup lsts_nil), upd_same, rfl, fun j v t h => by simp at h⟩
    generalize upd (upd H13 tl (.lst V5)) fl (.lst []) = H15 at F15 ⊢
    refine ⟨_, rfl, tl, rfl, ⟨V5, SqL.of F15.tl⟩, for_list (xs := V5) (fun i σ H' => ∃ (q8 q9 : Option V) (ws : List V), σ = [some (.ref sc), some (.ref b), some v0, some v1, some v2, some v3, some (.ref tl), some (.ref fl), q8, q9, none, none, none, none] ∧ Fr K (TB K) H H' b l tl fl V5 T5' ws i)
      ⟨none, none, [], rfl, F15⟩ (fun i σ H' _ ⟨_, _, _, _, F⟩ => SqL.of F.tl) ?_ ?_⟩
    · rintro i x σ H16 hx ⟨q8, q9, ws, rfl, F⟩
      obtain ⟨t, ht, rx⟩ := F.r.get hx
      have ot := oall t (List.mem_of_getElem? ht)
      have hgt := ot.hgt
      have hlt := ot.lv
      have hwl := F.len
      have hi5 : i < 5 := by
        rcases Nat.lt_or_ge i 5 with q | q
        · exact q
        · rw [List.getElem?_eq_none (by omega)] at hx; cases hx
      refine ⟨_, rfl, x, t, rfl, rx, by omega, ot.good, by omega, fun vh H17 e17 gh => ?_⟩
      have gh' : vh = .int (t.hgt : Int) := gh
      subst gh'
      have F17 := F.step0 e17 nbt.1.symm nbf.1.symm
      have rx17 := rx.tup (e17.tup lsts_nil)
      refine ⟨_, _, rfl, rfl, _, rfl, ?_⟩
      by_cases h4 : t.hgt < 4
      · rw [decide_eq_true (by omega)]
        refine iteT ?_
        refine ⟨_, rfl, _, rfl, b, l, x, t, rfl, rx17, by omega, ot.good, ot.norm, ot.nd, by omega, F17.B, fun S H18 wS e18 B18 => ?_⟩
        have RS : Rd1 S t := .of wS ot h4
        have F18 := F17.step e18 B18 nbt.1.symm nbf.1.symm
        refine ⟨_, rfl, .inl ⟨rfl, ws, SqL.of F18.fl⟩, _, rfl, fun x2 dx hx2 hdx hxd => ?_⟩
        have ex2 : Stp (TB K) [] H18 (upd (upd H18 dx (.own x2)) x2 (.ins (CS K) dx [])) := .of fun z o h => ex2of hx2 hdx hxd h
        refine ⟨x2, dx, _, t, rfl, upd_same, ex2.tabs (F18.e.tabs hT), .inl ⟨S, rfl, RS⟩, fun H19 e19 s19 => ⟨rfl, ?_⟩⟩
        have e1819 : Stp (TB K) [] H18 H19 := (ex2.wide.trans e19).drop hx2
        have F19 := F18.step0 e1819 nbt.1.symm nbf.1.symm
        refine ⟨fl, ws, _, rfl, rfl, F19.fl, by rw [zL]; omega, ?_⟩
        have elf : Stp (TB K) [fl] H19 (upd H19 fl (.lst (ws ++ [.ref x2]))) := .set F19.fl trivial (by simp)
        have lfl : Lsts H19 [fl] := lsts_one F19.fl
        refine ⟨_, _, ws ++ [.ref x2], rfl, F19.e.mut (.inl nfl) F19.fl trivial, F19.B.upd nbf.1 nbf.2, by rw [upd_ne htf]; exact F19.tl, F19.r.tup (elf.tup lfl), upd_same, by rw [List.length_append, hwl]; rfl, fun j vv tt h1 h2 => ?_⟩
        rcases Nat.lt_or_ge j ws.length with q | q
        · rw [List.getElem?_append_left q] at h1
          exact (F19.s j vv tt h1 h2).keep elf lfl
        · have hji : j = ws.length := by
            rcases Nat.eq_or_lt_of_le q with q | q
            · exact q.symm
            · rw [List.getElem?_eq_none (by rw [List.length_append]; simp; omega)] at h1
              cases h1
          subst hji
          rw [List.getElem?_append_right (Nat.le_refl _), Nat.sub_self] at h1
          simp at h1
          subst h1
          rw [hwl, ht] at h2
          injection h2 with h2
          rw [← h2]
          exact s19.keep elf lfl
      · rw [decide_eq_false (by omega)]
        refine iteF ?_
        refine ⟨_, rfl, x, t, rfl, rx17, by omega, ot.good, by omega, fun vt H18 e18 gt => ?_⟩
        obtain ⟨RS, ep⟩ := Rd1.text ot
        have gt' : vt = .str t.text := gt
        subst gt'
        rw [← ep]
        have F18 := F17.step0 e18 nbt.1.symm nbf.1.symm
        obtain ⟨S, eS⟩ : ∃ S, S = t.sx := ⟨_, rfl⟩
        rw [← eS] at RS ⊢
        refine ⟨_, rfl, .inl ⟨rfl, ws, SqL.of F18.fl⟩, _, rfl, fun x2 dx hx2 hdx hxd => ?_⟩
        have ex2 : Stp (TB K) [] H18 (upd (upd H18 dx (.own x2)) x2 (.ins (CS K) dx [])) := .of fun z o h => ex2of hx2 hdx hxd h
        refine ⟨x2, dx, _, t, rfl, upd_same, ex2.tabs (F18.e.tabs hT), .inl ⟨S, rfl, RS⟩, fun H19 e19 s19 => ⟨rfl, ?_⟩⟩
        have e1819 : Stp (TB K) [] H18 H19 := (ex2.wide.trans e19).drop hx2
        have F19 := F18.step0 e1819 nbt.1.symm nbf.1.symm
        refine ⟨fl, ws, _, rfl, rfl, F19.fl, by rw [zL]; omega, ?_⟩
        have elf : Stp (TB K) [fl] H19 (upd H19 fl (.lst (ws ++ [.ref x2]))) := .set F19.fl trivial (by simp)
        have lfl : Lsts H19 [fl] := lsts_one F19.fl
        refine ⟨_, _, ws ++ [.ref x2], rfl, F19.e.mut (.inl nfl) F19.fl trivial, F19.B.upd nbf.1 nbf.2, by rw [upd_ne htf]; exact F19.tl, F19.r.tup (elf.tup lfl), upd_same, by rw [List.length_append, hwl]; rfl, fun j vv tt h1 h2 => ?_⟩
        rcases Nat.lt_or_ge j ws.length with q | q
        · rw [List.getElem?_append_left q] at h1
          exact (F19.s j vv tt h1 h2).keep elf lfl
        · have hji : j = ws.length := by
            rcases Nat.eq_or_lt_of_le q with q | q
            · exact q.symm
            · rw [List.getElem?_eq_none (by rw [List.length_append]; simp; omega)] at h1
              cases h1
          subst hji
          rw [List.getElem?_append_right (Nat.le_refl _), Nat.sub_self] at h1
          simp at h1
          subst h1
          rw [hwl, ht] at h2
          injection h2 with h2
          rw [← h2]
          exact s19.keep elf lfl
    · rintro σ H16 ⟨q8, q9, ws, rfl, F⟩
      rw [vsl] at F
      refine ⟨_, rfl, tl, V5, rfl, .inl (SqL.of F.tl), ?_⟩
      rw [vsl]
      refine ⟨_, rfl, by decide, by decide, ?_⟩
      refine for_range (fun i σ H' => ∃ (q10 q11 q12 q13 : Option V), σ = [some (.ref sc), some (.ref b), some v0, some v1, some v2, some v3, some (.ref tl), some (.ref fl), q8, q9, q10, q11, q12, q13] ∧ Fr K (TB K) H H' b l tl fl V5 T5' ws 5)
        ⟨none, none, none, none, rfl, F⟩ ?_ ?_
      · rintro j σ H17 hj ⟨q10, q11, q12, q13, rfl, F⟩
        rw [Int.zero_add]
        have hj5 : j < 5 := hj
        have hwl := F.len
        obtain ⟨fj, hfj⟩ : ∃ v, ws[j]? = some v := ⟨_, List.getElem?_eq_getElem (by omega : j < ws.length)⟩
        obtain ⟨tj, htj⟩ : ∃ t, T5'[j]? = some t := ⟨_, List.getElem?_eq_getElem (by omega : j < T5'.length)⟩
        obtain ⟨vj, hvj, rj⟩ := F.r.getV htj
        have oj := oall tj (List.mem_of_getElem? htj)
        have hgj := oj.hgt
        have hlj := oj.lv
        obtain ⟨a, dx, fs, r, dx2, gs, ea, ha, hrt, hfm, hr2, hw2⟩ := F.s j fj tj hfj htj
        refine ⟨_, rfl, _, rfl, fl, ws, _, fj, rfl, rfl, SqL.of F.fl, atI_nat hfj, a, CS K, dx, fs, _, ea, ha, cl_Shape T, na_Shape_form T, hfm, ?_⟩
        have F0 := F
        refine ⟨_, rfl, _, rfl, _, rfl, tl, V5, _, vj, rfl, rfl, SqL.of F.tl, atI_nat hvj, vj, tj, rfl, rj, by omega, oj.good, by omega, F.e.tabs hT, fun vf H18 e18 gf => ?_⟩
        have gf' : vf = .str tj.form := gf
        subst gf'
        have F18 := F.step0 e18 nbt.1.symm nbf.1.symm
        refine ⟨_, _, rfl, ?_⟩
        rw [decide_eq_true rfl]
        refine ⟨_, rfl, ?_⟩
        refine iteF ?_
        have rj18 := rj.tup (e18.tup lsts_nil)
        refine ⟨_, rfl, _, rfl, _, rfl, _, rfl, tl, V5, _, vj, rfl, rfl, SqL.of F18.tl, atI_nat hvj, vj, tj, rfl, rj18, by omega, oj.good, by omega, fun p19 H19 np19 e19 h19 => ?_⟩
        have F19 := F18.step0 e19 nbt.1.symm nbf.1.symm
        refine ⟨p19, _, rfl, .inl (SqL.of h19), ?_⟩
        rw [List.length_map, under_len]
        refine ⟨b, l, tj.lv, rfl, hlj, F19.B, fun pn ns H20 nsl nsd nsn e20 B20 npn hpn => ?_⟩
        have F20 := F19.step e20 B20 nbt.1.symm nbf.1.symm
        refine ⟨tj, pn, ns, rfl, oj.good, hlj, hpn, nsl, nsd, nsn, F20.e.tabs hT, fun va ta H21 e21 sa fa => ?_⟩
        have F21 := F20.step0 e21 nbt.1.symm nbf.1.symm
        obtain ⟨aa, dxa, fsa, ra, dxa2, gsa, rfl, haa, hrta, hfma, hr2a, hwa⟩ := sa
        refine ⟨_, rfl, aa, CS K, dxa, fsa, _, rfl, haa, cl_Shape T, na_Shape_form T, hfma, _, rfl, _, _, rfl, ?_⟩
        rw [decide_eq_true fa]
        refine ⟨_, rfl, ?_⟩
        refine iteF ?_
        refine ⟨_, rfl, tl, V5, rfl, .inl (SqL.of F21.tl), ?_⟩
        rw [vsl]
        refine ⟨_, rfl, by decide, by decide, ?_⟩
        refine for_range (fun i σ H' => ∃ (q13 : Option V), σ = [some (.ref sc), some (.ref b), some v0, some v1, some v2, some v3, some (.ref tl), some (.ref fl), q8, q9, some (.int ((j : Nat) : Int)), some (.str tj.form), some (.ref aa), q13] ∧ Fr K (TB K) H H' b l tl fl V5 T5' ws 5)
          ⟨_, rfl, F21⟩ ?_ ?_
        · rintro m σ H22 hm ⟨q13, rfl, F22⟩
          rw [Int.zero_add]
          have hm5 : m < 5 := hm
          obtain ⟨fm, hfm'⟩ : ∃ v, ws[m]? = some v := ⟨_, List.getElem?_eq_getElem (by omega : m < ws.length)⟩
          obtain ⟨tm, htm⟩ : ∃ t, T5'[m]? = some t := ⟨_, List.getElem?_eq_getElem (by omega : m < T5'.length)⟩
          obtain ⟨vm, hvm, rm⟩ := F22.r.getV htm
          obtain ⟨vj2, hvj2, rj2⟩ := F22.r.getV htj
          have om := oall tm (List.mem_of_getElem? htm)
          have hgm := om.hgt
          have hlm := om.lv
          obtain ⟨am, dxm, fsm, rmm, dxm2, gsm, eam, ham, hrtm, hfmm, hr2m, hwm⟩ := F22.s m fm tm hfm' htm
          refine ⟨_, rfl, _, rfl, fl, ws, _, fm, rfl, rfl, SqL.of F22.fl, atI_nat hfm', am, CS K, dxm, fsm, _, eam, ham, cl_Shape T, na_Shape_form T, hfmm, _, rfl, rfl, ?_⟩
          refine ⟨_, rfl, _, rfl, tl, V5, _, vj2, rfl, rfl, SqL.of F22.tl, atI_nat hvj2, _, rfl, _, rfl, tl, V5, _, vm, rfl, rfl, SqL.of F22.tl, atI_nat hvm, vj2, vm, tj, tm, rfl, rj2, rm, by omega, oj.good, om.good, by omega, by omega, fun H23 e23 => ?_⟩
          have F23 := F22.step0 e23 nbt.1.symm nbf.1.symm
          have d1 : decide (V.str tm.form = V.str tj.form) = decide (tj.form = tm.form) := decide_eq_decide.mpr ⟨fun e => by injection e with e; exact e.symm, fun e => by rw [e]⟩
          refine ⟨rfl, _, rfl, ?_⟩
          rw [d1, decide_eq_true rfl]
          refine iteF ?_
          have sj := F23.s j fj tj hfj htj
          have sm := F23.s m fm tm hfm' htm
          have sj' := sj
          have sm' := sm
          obtain ⟨aj, dxj, fsj, _, _, _, ej, haj, _⟩ := sj'
          obtain ⟨an, dxn, fsn, _, _, _, en, han, _⟩ := sm'
          subst ej en
          refine ⟨_, rfl, _, rfl, fl, ws, _, _, rfl, rfl, SqL.of F23.fl, atI_nat hfj, _, rfl, _, rfl, fl, ws, _, _, rfl, rfl, SqL.of F23.fl, atI_nat hfm', aj, an, dxj, dxn, fsj, fsn, rfl, rfl, haj, han, _, _, tj, tm, rfl, sj, sm, _, rfl, ?_⟩
          have rj3 := rj2.tup (e23.tup lsts_nil)
          have rm3 := rm.tup (e23.tup lsts_nil)
          refine ⟨_, rfl, _, rfl, tl, V5, _, vj2, rfl, rfl, SqL.of F23.tl, atI_nat hvj2, vj2, tj, rfl, rj3, by omega, oj.good, by omega, fun vt H24 e24 gt => ?_⟩
          have gt' : vt = .str tj.text := gt
          subst gt'
          have F24 := F23.step0 e24 nbt.1.symm nbf.1.symm
          have rm4 := rm3.tup (e24.tup lsts_nil)
          refine ⟨_, rfl, _, rfl, tl, V5, _, vm, rfl, rfl, SqL.of F24.tl, atI_nat hvm, vm, tm, rfl, rm4, by omega, om.good, by omega, fun vt2 H25 e25 gt2 => ?_⟩
          have gt2' : vt2 = .str tm.text := gt2
          subst gt2'
          have F25 := F24.step0 e25 nbt.1.symm nbf.1.symm
          have d2 : decide (V.str tj.text = V.str tm.text) = decide (tj.text = tm.text) := decide_eq_decide.mpr ⟨fun e => by injection e, fun e => by rw [e]⟩
          refine ⟨rfl, rfl, _, rfl, ?_⟩
          rw [d2, decide_eq_true rfl]
          refine iteF ?_
          exact ⟨_, rfl, F25⟩
        · rintro σ H22 ⟨q13, rfl, F22⟩
          exact ⟨_, _, _, _, rfl, F22⟩
      · rintro σ H17 ⟨q10, q11, q12, q13, rfl, F⟩
        have hwl := F.len
        obtain ⟨f0, hf0⟩ : ∃ v, ws[0]? = some v := ⟨_, List.getElem?_eq_getElem (by omega : 0 < ws.length)⟩
        obtain ⟨f1, hf1⟩ : ∃ v, ws[1]? = some v := ⟨_, List.getElem?_eq_getElem (by omega : 1 < ws.length)⟩
        obtain ⟨s0, hs0⟩ : ∃ t, T5'[0]? = some t := ⟨_, List.getElem?_eq_getElem (by omega : 0 < T5'.length)⟩
        obtain ⟨s1, hs1⟩ : ∃ t, T5'[1]? = some t := ⟨_, List.getElem?_eq_getElem (by omega : 1 < T5'.length)⟩
        obtain ⟨a0, dx0, fs0, _, _, _, ea0, ha0, _, hfm0, _⟩ := F.s 0 f0 s0 hf0 hs0
        obtain ⟨a1, dx1, fs1, _, _, _, ea1, ha1, _, hfm1, _⟩ := F.s 1 f1 s1 hf1 hs1
        refine ⟨_, rfl, fl, ws, 0, f0, rfl, rfl, SqL.of F.fl, atI_nat (j := 0) hf0, a0, CS K, dx0, fs0, _, ea0, ha0, cl_Shape T, na_Shape_form T, hfm0, _, rfl, fl, ws, 1, f1, rfl, rfl, SqL.of F.fl, atI_nat (j := 1) hf1, a1, CS K, dx1, fs1, _, ea1, ha1, cl_Shape T, na_Shape_form T, hfm1, rfl, ?_⟩
        rw [decide_eq_true (by rw [f01' s0 s1 hs0 hs1])]
        exact k _
end
end K3

namespace K3
open PySem PySem.Spec PyProof.Rows L2
theorem run (w : World) : HandSHeadRun.RunEq R (PySem.W.view R.prog [56]) hk ob 3000 names w := by
  intro os
  kernel_rfl
end K3

namespace K3
open PySem PySem.Spec PyProof.Rows L2 LamX LK LB
theorem sql_stays {Tb : TBs} {K : PySem.W.Frag} {H H' : Hp} {a : Addr} {xs : List V} (h : SqL K H a xs) (e : Stp Tb [] H H') : SqL K H' a xs := by
  rcases h with h | h
  · rcases h with h | ⟨o, h⟩
    · exact .inl (.inl (e.get0 h trivial))
    · exact .inl (.inr ⟨o, e.get0 h trivial⟩)
  · exact .inr h
def pairs (K : PySem.W.Frag) : List (Addr × Addr) := td.map fun p => He.cT K p
theorem mem_pairs {K : PySem.W.Frag} {p : He.Defn × Str} (h : p ∈ tf) : He.cT K p.1 ∈ pairs K := List.mem_map.mpr ⟨p.1, List.mem_map.mpr ⟨p, h, rfl⟩, rfl⟩
theorem tabs0 {K : PySem.W.Frag} {H : Hp} (h : ∀ p ∈ pairs K, H p.2 = some (.tbl #[])) : Tabs (lamT K tf) H := fun p hp => by
  obtain ⟨y, hy, e⟩ := List.mem_map.mp hp
  rw [← e]
  exact .nil (h _ (mem_pairs hy))
theorem law_says {P : Program} {w : World} {K : PySem.W.Frag} {h : Heap} {mg : Str → Option Value} {f : Addr} (X : K.In h) (G : h.Ns mainGlobals mg) (hfa : mg ("law" : Str) = some (.ref f)) (c : He.SaysX fa fn [] td ex w h K) :
    ∃ fd : FuncData, (∀ (s : Shared) (v : Value), BindsTo s fd ⟨[v], []⟩ [("script", v)]) ∧ ∀ base : Heap, K.In base → base.Ns mainGlobals mg → (∀ p ∈ pairs K, TabB base mg p.1 p.2) → FnOk P w K mg base L2.CX0 137 f fd ["script"] (spLaw K (lamT K tf)) := by
  obtain ⟨fd, F⟩ := c.t.d.def_ 38 (d := d_law) rfl
  have b := FunD.bindsA (ps := ["script"]) F fun _ _ _ _ _ _ us hl => match us, hl with | [_], _ => rfl
  have e := hfa.symm.trans (He.glo_ok X G (c.t.d.fact 38 (f := .glo "law") rfl))
  have ef : f = He.fAd K d_law.at_ := by
    cases e
    rfl
  refine ⟨fd, fun s v => b s [v] rfl, fun base Xb Gb tb => ?_⟩
  have T : Tx K mg base := ⟨c.t.d, ⟨h, X, G⟩, c.more, of_decide_eq_true (He.ba (He.ba (He.ba (He.ba c.more).1).1).1).1, fun p hp => tb _ (mem_pairs hp)⟩
  obtain ⟨oc, od, dV, kV, doc, pm, an, cdv, ct, osl, rfl, lk, hcd, _, _⟩ := F.ex
  obtain ⟨c', rfl⟩ := He.codeIn_ref hcd
  have ec : (He.cT K d_law.at_).1 = c' := He.codeOf_eq lk rfl
  rw [ef]
  refine fn_of lk hcd sc_law (fun vs H Q E ⟨sc, xs, e, _⟩ => by rw [e]; rfl) fun A outer s H vs Q E hr hsp => ?_
  have q := law_body (P := P) (w := w) T A outer s H vs Q E (by rw [ec]; exact hr) hsp
  rw [ec] at q
  obtain ⟨t, h1, h2⟩ := q
  exact ⟨t, h1.nox, h2⟩
end K3
open PySem PySem.W PySem.Calls PyProof.Rows
theorem PySem.Challenge.cw_turnskept_k03_whole_forms_say_same_but_f_holds : PySem.Challenge.rw_turnskept_k03_whole_forms_say_same_but_f.Holds := by
  w_on; o_law
  refine HandSHeadRun.head_any (r := OpenLaw.row PySem.Challenge.rw_turnskept_k03_whole_forms_say_same_but_f) (q := view (OpenLaw.row PySem.Challenge.rw_turnskept_k03_whole_forms_say_same_but_f).prog [56]) (H := K3.hk) (ob := K3.ob) (M := 3000) (loose := K3.names) (d := HandSHeadRun.topDef (OpenLaw.row PySem.Challenge.rw_turnskept_k03_whole_forms_say_same_but_f).prog 56) (kwd := []) K3.ob_eq
    (by kernel_rfl) (fun s => by kernel_rfl) K3.run (by kernel_rfl) (by kernel_rfl) (by kernel_rfl) (by rfl) (by first | assumption | decide +kernel) (by decide +kernel) ⟨rfl, rfl, rfl, rfl, rfl, by decide +kernel⟩ ?hw ?hc
  case hw => w_witness2
  case hc =>
    refine LamX.walk_ofTsE (l := PySem.Challenge.rw_turnskept_k03_whole_forms_say_same_but_f) (n := 63) (k := 137) (x := "script") (CX := fun _ => L2.CX0) rfl (by decide) (by kernel_rfl) ⟨rfl, by decide, by decide⟩ ?F (fun _ _ _ _ _ z => z)
    intro w mg fa h Y G hmg0
    obtain ⟨K, KX, c⟩ := Y
    have hmg : mg ("law" : PySem.Str) = some (.ref fa) := by
      have e : (HandSHeadRun.topDef (OpenLaw.row PySem.Challenge.rw_turnskept_k03_whole_forms_say_same_but_f).prog 56).name = ("law" : PySem.Str) := by kernel_rfl
      rw [← e]
      exact hmg0
    obtain ⟨fd, hb, hF⟩ := K3.law_says (P := (PySem.Challenge.rw_turnskept_k03_whole_forms_say_same_but_f).prog) (w := w) KX G hmg c
    refine ⟨K, KX, fd, K3.pairs K, K3.spLaw K (LB.lamT K K3.tf), ?_, ?_, ?_, hb, ?_, hF⟩
    · intro p hp
      obtain ⟨y, hy, e⟩ := List.mem_map.mp hp
      rw [← e]
      exact c.empty y hy
    · intro p hp
      obtain ⟨y, hy, e⟩ := List.mem_map.mp hp
      rw [← e]
      exact c.out y hy
    · intro p hp
      obtain ⟨y, hy, e⟩ := List.mem_map.mp hp
      rw [← e]
      exact PySem.W.codeHd_of_K KX (c.hd y hy)
    · intro H a ns hl _ hT hS
      exact ⟨a, ns, rfl, fun H' e => K3.sql_stays hS e, K3.tabs0 hT, fun _ => rfl⟩
