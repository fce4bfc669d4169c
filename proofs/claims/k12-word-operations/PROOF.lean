import PyProof.Rows.All
import Wide.All
import OpenK.AllK
import Wide.FinOn
import HandS.ForMost
import HandS.SortKw
import HandS.Codes
import HandS.Strs
import HandS.Wide
import HandS.IsInst
import HandS.StrMore
import HandS.Steps
import HandS.Evl
import HandS.Zip
import HandS.Flow
import HandS.Style
import HandS.ClsMeth
import HandS.Star
import HandS.OwnEq
import KE.KOpsOwn
import PySem.Challenge.RW_gatesworn_k12_word_operations
set_option Elab.async false
set_option linter.all false
set_option maxRecDepth 100000
set_option maxHeartbeats 4000000
namespace WL
open PySem PySem.Spec PyProof.Rows L2 PySem.W
/-! max of a list of ints with default= -/
section
variable {prog : Program} {w : World} {A : Around} {R : Result → Shared → Prop} {I : Addr} {fp wr : List Addr} {n : Nat} {P : Nat → Value → Prop} {St : Nat → Heap → Prop} {kw : List (Str × Value)}
theorem mxName : (toString "max" ++ toString ".loop" : String) = "max.loop" := by decide
/-- the turns behind the first one, whatever the keywords -/
theorem mx_turns (W : Walks prog w A.in1 I fp wr n P St) (bt : Nat → Nat → Bool) (cmp : CmpOf prog w A.in1 .Gt P bt) (S : Addr) (nf : S ∉ fp) : ∀ (k j : Nat) (s : Shared) (vb : Value) (c : Nat), n - (j + 1) = k → j + 1 ≤ n → St (j + 1) s.heap → P (argBest bt j) vb →
    s.heap.get? S = some { cls := .type "list", dict := none, data := .seq #[vb, vb] c, slots := #[] } →
    (∀ v h' tk, P (argBest bt (n - 1)) v → (∀ b o, b ∉ wr → b ≠ S → s.heap.get? b = some o → h'.get? b = some o) → R (.ok (.ret v)) { s with heap := h', toks := tk }) →
    codeAny (model prog w) A (.builtin "max.loop" ⟨[.ref I, .none, .ref S], kw⟩) R s := by
  have nw : S ∉ wr := fun h => nf (W.sub _ h)
  intro k; induction k with
  | zero =>
    intro j s vb c hk hj hst hPb hS hR
    have en : j + 1 = n := by omega
    refine codeAny_builtin F.entry_max_loop ?_; rw [Around.under_plainId F.plain_max_loop _]
    (show wpAny _ A.in1 (seqItems? (.ref S) >>= _) _ _ s); refine wpAny_bind (wpAny_seqItems hS rfl ?_)
    (show wpAny _ A.in1 (tryCatch (pyNext (.ref I)) _ >>= _) _ _ s); refine wpAny_bind (wpAny_tryCatch (W.done s _ _ (en ▸ hst) fun h' tk hk' => ?_))
    (show wpAny _ A.in1 (updateSeq S (fun _ => #[]) >>= _) _ _ _); refine wpAny_bind (wpAny_updateSeq (hk' S _ nw hS) rfl (wpAny_bind (wpAny_letGo (wpAny_pure ?_))))
    exact hR vb _ tk (by rw [← en]; exact hPb) fun b o hbw hbS e => (Heap.get?_update_other _ _ (Ne.symm hbS)).trans (hk' b o hbw e)
  | succ k ih =>
    intro j s vb c hk hj hst hPb hS hR
    have hlt : j + 1 < n := by omega
    refine codeAny_builtin F.entry_max_loop ?_; rw [Around.under_plainId F.plain_max_loop _]
    (show wpAny _ A.in1 (seqItems? (.ref S) >>= _) _ _ s); refine wpAny_bind (wpAny_seqItems hS rfl ?_)
    (show wpAny _ A.in1 (tryCatch (pyNext (.ref I)) _ >>= _) _ _ s); refine wpAny_bind (wpAny_tryCatch (W.item (j + 1) s _ _ hlt hst fun v h' tk hP hst' hk' => ?_))
    have hS' := hk' S _ nw hS
    (show wpAny _ A.in1 (tryCatch (holding [v, v] (richCompare .Gt v vb >>= _)) _ >>= _) _ _ _); refine wpAny_bind (wpAny_tryCatch (wpAny_holding (wpAny_bind (cmp (j + 1) (argBest bt j) v vb _ _ _ hP hPb ?_))))
    refine wpAny_bind (wpAny_holding (wpAny_truthy_bool ?_)); refine wpAny_bind (wpAny_letGo (wpAny_pure ?_))
    cases hb : bt (j + 1) (argBest bt j) with
    | true =>
      simp only [if_true]
      refine wpAny_bind (wpAny_updateSeq hS' rfl (wpAny_bind (wpAny_letGo ?_))); rw [mxName]
      refine wpAny_pure ⟨plainId_quiet F.plain_max_loop _, ih (j + 1) _ v _ (by omega) hlt (W.frame _ _ _ hst' fun b hbf o e => ?_) (by simp only [argBest, hb, if_true]; exact hP) (Heap.get?_update_self _ hS' rfl) fun v' h'' tk'' hP' hk'' => ?_⟩
      · exact (Heap.get?_update_other _ _ (fun q : S = b => nf (by rw [q]; exact hbf))).trans e
      · exact hR v' h'' tk'' hP' fun b o hbw hbS e => hk'' b o hbw hbS ((Heap.get?_update_other _ _ (Ne.symm hbS)).trans (hk' b o hbw e))
    | false =>
      simp only [Bool.false_eq_true, if_false]
      refine wpAny_bind (wpAny_letGo ?_); rw [mxName]
      refine wpAny_pure ⟨plainId_quiet F.plain_max_loop _, ih (j + 1) _ vb c (by omega) hlt hst' (by simp only [argBest, hb, Bool.false_eq_true, if_false]; exact hPb) hS' fun v' h'' tk'' hP' hk'' => ?_⟩
      exact hR v' h'' tk'' hP' fun b o hbw hbS e => hk'' b o hbw hbS (hk' b o hbw e)
/-- all turns, at least one item -/
theorem mx_first (W : Walks prog w A.in1 I fp wr n P St) (bt : Nat → Nat → Bool) (cmp : CmpOf prog w A.in1 .Gt P bt) (S : Addr) (nf : S ∉ fp) (hn : 0 < n) {s : Shared} {c : Nat} (hst : St 0 s.heap) (hS : s.heap.get? S = some { cls := .type "list", dict := none, data := .seq #[] c, slots := #[] })
    (hR : ∀ v h' tk, P (argBest bt (n - 1)) v → (∀ b o, b ∉ wr → b ≠ S → s.heap.get? b = some o → h'.get? b = some o) → R (.ok (.ret v)) { s with heap := h', toks := tk }) : codeAny (model prog w) A (.builtin "max.loop" ⟨[.ref I, .none, .ref S], kw⟩) R s := by
  have nw : S ∉ wr := fun h => nf (W.sub _ h)
  refine codeAny_builtin F.entry_max_loop ?_; rw [Around.under_plainId F.plain_max_loop _]
  (show wpAny _ A.in1 (seqItems? (.ref S) >>= _) _ _ s); refine wpAny_bind (wpAny_seqItems hS rfl ?_)
  (show wpAny _ A.in1 (tryCatch (pyNext (.ref I)) _ >>= _) _ _ s); refine wpAny_bind (wpAny_tryCatch (W.item 0 s _ _ hn hst fun v h' tk hP hst' hk' => ?_))
  have hS' := hk' S _ nw hS
  (show wpAny _ A.in1 (updateSeq S (fun _ => #[v, v]) >>= _) _ _ _); refine wpAny_bind (wpAny_updateSeq hS' rfl ?_); rw [mxName]
  refine wpAny_pure ⟨plainId_quiet F.plain_max_loop _, mx_turns W bt cmp S nf _ 0 _ v _ rfl hn (W.frame _ _ _ hst' fun b hbf o e => ?_) hP (Heap.get?_update_self _ hS' rfl) fun v' h'' tk'' hP' hk'' => ?_⟩
  · exact (Heap.get?_update_other _ _ (fun q : S = b => nf (by rw [q]; exact hbf))).trans e
  · exact hR v' h'' tk'' hP' fun b o hbw hbS e => hk'' b o hbw hbS ((Heap.get?_update_other _ _ (Ne.symm hbS)).trans (hk' b o hbw e))
/-- no item: the default -/
theorem mx_none (W : Walks prog w A.in1 I fp wr n P St) (S : Addr) (nf : S ∉ fp) (hn : n = 0) {d : Value} {s : Shared} {c : Nat} (hst : St 0 s.heap) (hS : s.heap.get? S = some { cls := .type "list", dict := none, data := .seq #[] c, slots := #[] })
    (hR : ∀ h' tk, (∀ b o, b ∉ wr → b ≠ S → s.heap.get? b = some o → h'.get? b = some o) → R (.ok (.ret d)) { s with heap := h', toks := tk }) : codeAny (model prog w) A (.builtin "max.loop" ⟨[.ref I, .none, .ref S], [("default", d)]⟩) R s := by
  subst hn
  refine codeAny_builtin F.entry_max_loop ?_; rw [Around.under_plainId F.plain_max_loop _]
  (show wpAny _ A.in1 (seqItems? (.ref S) >>= _) _ _ s); refine wpAny_bind (wpAny_seqItems hS rfl ?_)
  (show wpAny _ A.in1 (tryCatch (pyNext (.ref I)) _ >>= _) _ _ s); refine wpAny_bind (wpAny_tryCatch (W.done s _ _ hst fun h' tk hk' => ?_))
  refine wpAny_bind (wpAny_rule ?_)
  exact wpAny_pure (hR h' tk fun b o hbw _ e => hk' b o hbw e)
end
section
variable {prog : Program} {w : World} {A : Around} {E : Value → Shared → Prop} {s : Shared} {l : Addr} {xs : Array (Int × Tok)} {Q : Value → Shared → Prop}
theorem mx_args (a d : Value) : argsOk "max" ⟨[a], [(Str.ofString "default", d)]⟩ := by unfold argsOk; kernel_rfl
theorem mx_list {d : Value} (hh : A.handled = none) (hl : s.heap.IsList l (intItems xs)) (h0 : xs.size = 0 → ∀ h' tk, (∀ b o, s.heap.get? b = some o → h'.get? b = some o) → Q d { s with heap := h', toks := tk })
    (h1 : 0 < xs.size → ∀ v h' tk, (intItems xs)[argBest (fun i j => decide (numAt xs i > numAt xs j)) (xs.size - 1)]? = some v → (∀ b o, s.heap.get? b = some o → h'.get? b = some o) → Q v { s with heap := h', toks := tk }) :
    wpAny (model prog w) A (call (.builtin "max") [.ref l] [(Str.ofString "default", d)]) Q E s := by
  refine kmk_tree F.kind_max F.plain_max F.entry_max (mx_args _ _) ?_
  show wpAny _ A.in1 (Builtin.Builtins.bindParams "max" ["key", "default"] 0 ⟨[], [(Str.ofString "default", d)]⟩ >>= _) _ _ s
  refine wpAny_bind (wpAny_of_eq (show Builtin.Builtins.bindParams "max" ["key", "default"] 0 ⟨[], [(Str.ofString "default", d)]⟩ = pure [none, some d] from rfl) ?_)
  refine wpAny_bind (wpAny_pure ?_)
  refine wpAny_bind (iter_intList hl fun s₂ e st hfp hlI => ?_)
  refine wpAny_bind (wpAny_newObj_type ?_)
  have W := Walks.list (prog := prog) (w := w) (A := A.in1) hh _ l hlI (intItems xs)
  have nf : s₂.heap.objs.size ∉ [s.heap.objs.size, l] := fun hm => Nat.lt_irrefl _ (hfp _ hm)
  have st0 := W.frame 0 _ (s₂.heap.push { cls := .type "list", data := .seq (#[] : Array Value) }) st (fun b _ o e => Heap.get?_push_of_some _ e)
  have hS : (s₂.heap.push { cls := .type "list", data := .seq (#[] : Array Value) }).get? s₂.heap.objs.size = some { cls := .type "list", data := .seq (#[] : Array Value) } := Heap.get?_push_size _ rfl
  rw [mxName]
  subst e
  by_cases hz : xs.size = 0
  · refine wpAny_pure ⟨plainId_quiet F.plain_max_loop _, mx_none W _ nf (by simpa [intItems] using hz) st0 hS fun h' tk hk => ?_⟩
    exact h0 hz h' tk (old_kept fun b o hb e => hk b o hb (Nat.ne_of_lt (Heap.lt_size e)) (Heap.get?_push_of_some _ e))
  · refine wpAny_pure ⟨plainId_quiet F.plain_max_loop _, mx_first W _ (CmpOf.ints_gt (numAt xs) (fun _ _ => intItems_at)) _ nf (by simp [intItems]; omega) st0 hS fun v h' tk hP hk => ?_⟩
    exact h1 (by omega) v h' tk (by simpa [intItems] using hP) (old_kept fun b o hb e => hk b o hb (Nat.ne_of_lt (Heap.lt_size e)) (Heap.get?_push_of_some _ e))
end
/-- max(xs, default=d), xs a list of ints -/
def rMaxD (K : PySem.W.Frag) : List V → List V → Hp → VK → Prop := fun vs zs H Q => ∃ (a : Addr) (ns : List Int) (d : Int), vs = [V.ref a] ∧ zs = [V.int d] ∧ SqL K H a (ns.map V.int) ∧ (ns = [] → Q (.int d) H) ∧ (∀ m, m ∈ ns → (∀ y, y ∈ ns → y ≤ m) → Q (.int m) H)
theorem cr_maxD {X : Cx} (hc : X.calm = true) : CallRK X (.builtin "max") [Str.ofString "default"] (rMaxD X.K) := by
  intro pins s σ H vs zs us ws Q I r r2 h
  obtain ⟨a, ns, d, rfl, rfl, hs, q0, q1⟩ := h
  obtain ⟨its, rv, hl, _⟩ := I.list hs
  rw [Vals.ref1 r]
  obtain ⟨u, rfl, t, rfl⟩ : ∃ u, ws = [u] ∧ ∃ t, u = Value.int d t := by
    cases r2 with
    | cons a b => cases b; exact ⟨_, rfl, a⟩
  obtain ⟨xs, e⟩ := rv.ints.allInts.items
  have hn : numsOf (intItems xs).toList = ns := by rw [← e]; exact rv.ints.numsOf
  rw [nums_intItems] at hn
  subst hn
  have hl' := hl.isList
  rw [e] at hl'
  refine mx_list (I.ok.hd hc) hl' (fun hz h' tk hk => ⟨.int d, H, I.kept hk, ⟨_, rfl⟩, q0 ?_⟩) (fun hz v h' tk hv hk => ?_)
  · have : xs = #[] := Array.eq_empty_of_size_eq_zero hz
    subst this; rfl
  · obtain ⟨t, rfl⟩ := intItems_at hv
    obtain ⟨k1, k2⟩ := argBest_gt (numAt xs) (xs.size - 1)
    refine ⟨.int _, H, I.kept hk, ⟨_, rfl⟩, q1 _ ?_ fun y hy => ?_⟩
    · rw [numAt_eq]; exact PySem.getD_mem (by rw [List.length_map, Array.length_toList]; omega)
    · obtain ⟨j, hj, rfl⟩ := mem_getD hy
      rw [List.length_map, Array.length_toList] at hj
      rw [← numAt_eq]; exact k2 j (by omega)
theorem my_maxD {X : Cx} (K : PySem.W.Frag) {p pos kp : Pos} {e d : Expr} {te td : TE} (hm : X.mg "max" = none) (hc : X.calm = true) (hg : Gl X "max") (he : PE X e te) (hd : PE X d td)
    (h1 : backTo pos (starEach [e] X.env) = (false, eval e X.env) :: backTo pos (starEach [] X.env) := by rfl) (h2 : (backTo pos (starEach [e] X.env)).any (·.1) = false := by rfl) (h3 : starEach [e] X.env = (false, eval e X.env) :: starEach [] X.env := by rfl) (eK : X.K = K := by rfl) :
    PE X (.Call (.Name "max" p) [e] [⟨some "default", d, kp⟩] pos) (tCKw (rMaxD K) (tCons te tNil) (tCons td tNil)) := by
  subst eK
  exact pe_callBK (cr_maxD hc) hg hm (by decide +kernel) (pa_cons he pa_nil h3) (pk_cons hd pk_nil) (by decide) (by decide) h1 h2 rfl rfl rfl
/-- text * int -/
theorem op_mul_str {X : Cx} : OpR X (binaryOp .Mult) (fun x y H Q => ∃ z n, x = .str z ∧ y = .int n ∧ z.length ≤ 16 ∧ n ≤ 1048576 ∧ -(2 ^ 63 : Int) ≤ n ∧ Q (.str (Txt.mul z n)) H) := by
  intro pins s σ H x y v u Q I rx ry h
  obtain ⟨z, n, rfl, rfl, h1, h2, h3, q⟩ := h
  obtain ⟨t, rfl⟩ := rx
  obtain ⟨t', rfl⟩ := ry
  exact SB.mul (mulOk_of 16 1048576 h1 h2 h3 (by decide) (by decide)) fun t' k => ⟨.str (Txt.mul z n), H, I.tok _, ⟨_, rfl⟩, q⟩
end WL
set_option Elab.async false
set_option linter.all false
set_option maxRecDepth 100000
set_option maxHeartbeats 4000000
namespace WL
open PySem PySem.Spec PyProof.Rows L2 PySem.W
/-! ### heaps: all but b stays -/
def Kp (b : Addr) (H H' : Hp) : Prop := ∀ a o, H a = some o → a ≠ b → H' a = some o
theorem Kp.refl {b : Addr} (H : Hp) : Kp b H H := fun _ _ h _ => h
theorem Kp.trans {b : Addr} {H H1 H2 : Hp} (p : Kp b H H1) (q : Kp b H1 H2) : Kp b H H2 := fun a o h n => q a o (p a o h n) n
theorem Kp.set {b : Addr} {H H1 : Hp} {o : HO} (p : Kp b H H1) : Kp b H (upd H1 b o) := fun a u h n => by rw [upd_ne n]; exact p a u h n
theorem Kp.new {b p : Addr} {H H1 : Hp} {o : HO} (k : Kp b H H1) (hp : H1 p = none) : Kp b H (upd H1 p o) := fun a u h n => by
  have e := k a u h n
  rw [upd_ne (ne_of_none e hp)]; exact e
/-- an object that was not there may change -/
theorem Kp.mut {b p : Addr} {H H1 : Hp} {o : HO} (k : Kp b H H1) (hp : H p = none) : Kp b H (upd H1 p o) := fun a u h n => by
  rw [upd_ne (ne_of_none h hp)]; exact k a u h n
theorem Kp.same {b : Addr} {H H1 : Hp} (s : Same H H1) : Kp b H H1 := fun a o h _ => s a o h
theorem Kp.free {b a : Addr} {H H1 : Hp} (k : Kp b H H1) (n : a ≠ b) (h : H1 a = none) : H a = none := by
  cases e : H a with
  | none => rfl
  | some o => rw [k a o e n] at h; cases h
theorem Kp.seq {K : PySem.W.Frag} {b a : Addr} {xs : List V} {H H1 : Hp} (k : Kp b H H1) (n : a ≠ b) (h : SqL K H a xs) : SqL K H1 a xs := by
  rcases h with (h | ⟨o, h⟩) | h
  · exact .inl (.inl (k _ _ h n))
  · exact .inl (.inr ⟨o, k _ _ h n⟩)
  · exact .inr h
theorem same_new {H : Hp} {p : Addr} {o : HO} (h : H p = none) : Same H (upd H p o) := fun b x e => by
  rw [upd_ne (ne_of_none e h)]; exact e
theorem same_mut {H H1 : Hp} {p : Addr} {o : HO} (k : Same H H1) (hp : H p = none) : Same H (upd H1 p o) := fun a u h => by
  rw [upd_ne (ne_of_none h hp)]; exact k a u h
theorem cxK {CX : CXT} {P : Program} {w : World} {K : PySem.W.Frag} {mg : Str → Option Value} {base : Heap} {N : List Str} {qual : Str} {scope : Scope} {f : Addr} {cd : Value} {A : Around} {outer : List Env} {s : Shared} {H : Hp} {E : XK} : (cxOf CX P w K mg base N qual scope f cd A outer s H E).K = K := rfl
/-! ### the rules with the written part named -/
section
variable {X : Cx} (K : PySem.W.Frag)
theorem kix_list (e : X.K = K := by rfl) : IxR X (rIxL K) := by subst e; exact ix_list
theorem kix_tup (e : X.K = K := by rfl) : IxR X (rIxT K) := by subst e; exact ix_tup
theorem ksl_list (e : X.K = K := by rfl) : SlR X (rSlL K) := by subst e; exact sl_list
theorem ksl_tup (e : X.K = K := by rfl) : SlR X (rSlT K) := by subst e; exact sl_tup
theorem kop_in_seq (e : X.K = K := by rfl) : OpR X (compareOp .In) (rIn K false) := by subst e; exact op_in_seq
theorem kop_notIn_seq (e : X.K = K := by rfl) : OpR X (compareOp .NotIn) (rIn K true) := by subst e; exact op_notIn_seq
theorem kop_catT (e : X.K = K := by rfl) : OpR X (binaryOp .Add) (rCatT K) := by subst e; exact op_catT
theorem kcall_len_seq (e : X.K = K := by rfl) : CallR X (.builtin "len") (fun xs H Q => ∃ p ys, xs = [.ref p] ∧ (SqL K H p ys ∨ SqT K H p ys) ∧ Q (.int ys.length) H) := by subst e; exact call_len_seq
theorem kcall_list_of (e : X.K = K := by rfl) : CallR X (.type "list") (fun xs H Q => ∃ p ys, xs = [.ref p] ∧ (SqL K H p ys ∨ SqT K H p ys) ∧ ∀ l, H l = none → Q (.ref l) (upd H l (.lst ys))) := by subst e; exact call_list_of
theorem kcall_tuple_of (e : X.K = K := by rfl) : CallR X (.type "tuple") (fun xs H Q => ∃ p ys, xs = [.ref p] ∧ ((SqL K H p ys ∧ ∀ l, H l = none → Q (.ref l) (upd H l (.tup ys))) ∨ (SqT K H p ys ∧ Q (.ref p) H))) := by subst e; exact call_tuple_of
theorem kcr_sum (hc : X.calm = true := by rfl) (e : X.K = K := by rfl) : CallR X (.builtin "sum") (rSum K) := by subst e; exact cr_sum hc
theorem kcr_max (hc : X.calm = true := by rfl) (e : X.K = K := by rfl) : CallR X (.builtin "max") (rMax K) := by subst e; exact cr_max hc
theorem kcr_min (hc : X.calm = true := by rfl) (e : X.K = K := by rfl) : CallR X (.builtin "min") (rMin K) := by subst e; exact cr_min hc
theorem kop_eqD (hu : X.A.units + 64 < cLine) (e : X.K = K := by rfl) : OpR X (compareOp .Eq) (rEqD K) := by subst e; exact op_eqD hu
theorem kop_neD (hu : X.A.units + 64 < cLine) (e : X.K = K := by rfl) : OpR X (compareOp .NotEq) (rNeD K) := by subst e; exact op_neD hu
theorem kcall_isi (e : X.K = K := by rfl) : CallR X (.builtin "isinstance") (rIsi K) := by subst e; exact call_isi
theorem kcall_isiT (e : X.K = K := by rfl) : CallR X (.builtin "isinstance") (rIsiT K) := by subst e; exact call_isiT
theorem kpi_list {tg l : Expr} {tl : TE} (hl : PE X l tl) (e : X.K = K := by rfl) : PI X tg l (iList K tl) := by subst e; exact pi_list hl
theorem kpi_tup {tg l : Expr} {tl : TE} (hl : PE X l tl) (e : X.K = K := by rfl) : PI X tg l (iTup K tl) := by subst e; exact pi_tup hl
theorem kpt_truth {a : Expr} {ta : TE} (ha : PE X a ta) (he : ∀ whole, isTrue a X.env whole = (do let v ← whole; standAt a.pos; holding [v] (truthy v))) (e : X.K = K := by rfl) : PT X a (tTru K ta) := by subst e; exact pt_truth ha he
theorem kpe_bm {o ex : Expr} {es : List Expr} {T name id} {apos cpos : Pos} {r : V → List V → Hp → VK → Prop} {to : TE} {t : TA} (pa : PlainAttrs T) (slot : Slot T name id) (hty : typeOf (.builtin id) = pure (.type "method_descriptor")) (hm : MtR X id r) (ho : PE X o to) (ha : PA X (ex :: es) t)
    (hbase : attributeBase o name X.env (eval o X.env) = eval o X.env := by rfl) (hfew : ((backTo cpos (starEach (ex :: es) X.env)).all (fun x => !x.1) && (backToKw cpos (keywordEach [] X.env)).all (fun x => x.1.isSome) && decide ((ex :: es).length + ([] : List Keyword).length + (if ([] : List Keyword).isEmpty then 0 else 1) < 30)) = true := by rfl)
    (hline : (apos.endLine == cpos.line) = true := by rfl) (hs : starEach (ex :: es) X.env = (false, eval ex X.env) :: starEach es X.env := by rfl) (hplain : (backTo cpos (starEach es X.env)).any (·.1) = false := by rfl) (e : X.K = K := by rfl) :
    PE X (.Call (.Attribute o name apos) (ex :: es) [] cpos) (tBM K T r to t) := by subst e; exact pe_bm pa slot hty hm ho ha hbase hfew hline hs hplain
theorem kpe_bm0 {o : Expr} {T name id} {apos cpos : Pos} {r : V → List V → Hp → VK → Prop} {to : TE} (pa : PlainAttrs T) (slot : Slot T name id) (hty : typeOf (.builtin id) = pure (.type "method_descriptor")) (hm : MtR X id r) (ho : PE X o to)
    (hbase : attributeBase o name X.env (eval o X.env) = eval o X.env := by rfl) (hline : (apos.endLine == cpos.line) = true := by rfl) (e : X.K = K := by rfl) : PE X (.Call (.Attribute o name apos) [] [] cpos) (tBM0 K T r to) := by subst e; exact pe_bm0 pa slot hty hm ho hbase hline
theorem kpe_join {o ex : Expr} {to te : TE} {apos pos : Pos} (ho : PE X o to) (he : PE X ex te) (hs : starEach [ex] X.env = [(false, eval ex X.env)] := by rfl) (hbase : attributeBase o "join" X.env (eval o X.env) = eval o X.env := by rfl) (hline : (apos.endLine == pos.line) = true := by rfl) (e : X.K = K := by rfl) :
    PE X (.Call (.Attribute o "join" apos) [ex] [] pos) (tM1 (fun x xs H Q => ∃ a p, ∃ ys : List Str, x = .str a ∧ xs = [.ref p] ∧ (SqL K H p (ys.map V.str) ∨ SqT K H p (ys.map V.str)) ∧ (ys.map (·.length)).sum + ys.length * a.length ≤ 16777216 ∧ Q (.str (Txt.join a ys)) H) to te) := by subst e; exact pe_join ho he hs hbase hline
theorem kpg_tup {es : List Expr} {k : Nat} {t : TGs} {n : Nat} {pos : Pos} (hc : X.calm = true) (h : PGs X es t) (hn : (assignEach es X.env).length = n := by rfl) (hst : (assignEach es X.env).findIdx? (·.1) = none := by rfl) (e : X.K = K := by rfl) : PG X (.Tuple es k pos) (gTup K n t) := by subst e; exact pg_tup hc h hn hst
theorem kpi_zip {ex e2 : Expr} {ta : TA} {p pos tpos : Pos} {elts : List Expr} {kk : Nat} (hg : Gl X "zip") (hm : X.mg "zip" = none) (ha : PA X [ex, e2] ta) (hs : starEach [ex, e2] X.env = (false, eval ex X.env) :: starEach [e2] X.env := by rfl) (hpl : (backTo pos (starEach [e2] X.env)).any (·.1) = false := by rfl) (e : X.K = K := by rfl) :
    PI X (.Tuple elts kk tpos) (.Call (.Name "zip" p) [ex, e2] [] pos) (iZip K ta) := by subst e; exact pi_zip hg hm ha hs hpl
theorem kpi_enum {ex : Expr} {ta : TA} {p pos tpos : Pos} {elts : List Expr} {kk : Nat} (hg : Gl X "enumerate") (hm : X.mg "enumerate" = none) (ha : PA X [ex] ta) (hs : starEach [ex] X.env = [(false, eval ex X.env)] := by rfl) (e : X.K = K := by rfl) :
    PI X (.Tuple elts kk tpos) (.Call (.Name "enumerate" p) [ex] [] pos) (iEnum K ta) := by subst e; exact pi_enum hg hm ha hs
theorem kpi_reversed {tg ex : Expr} {ta : TA} {p pos : Pos} (hg : Gl X "reversed") (hm : X.mg "reversed" = none) (ha : PA X [ex] ta) (hs : starEach [ex] X.env = [(false, eval ex X.env)] := by rfl) (e : X.K = K := by rfl) : PI X tg (.Call (.Name "reversed" p) [ex] [] pos) (iRev K ta) := by subst e; exact pi_reversed hg hm ha hs
end
/-! ### steps of a reading -/
section
variable {K : PySem.W.Frag} {σ : L2.St} {H : Hp} {Q : VK} {D : Ends} {ta tb te tc : TE} {t u : TS} {c d : TT} {i j : Int} {x y v : V} {p : Addr} {xs : List V} {k : Nat} {b : Bool}
theorem g_seq (h : t { D with nx := u D } σ H) : tSeq t u D σ H := h
theorem g_asg {g : TG} (h : te σ H fun x H1 => g x σ H1 D.nx) : tAsg te g D σ H := h
theorem g_name {Q : L2.St → Hp → Prop} (h : Q (σ.set k (some v)) H) : gName k v σ H Q := h
theorem g_sub {to ti : TE} {r : TSet} {Q : L2.St → Hp → Prop} (h : to σ H fun o H1 => ti σ H1 fun i H2 => r o i v H2 fun H3 => Q σ H3) : gSub to ti r v σ H Q := h
theorem g_var (e : σ[k]? = some (some v)) (h : Q v H) : tVar k σ H Q := ⟨v, e, h⟩
theorem g_c (h : Q v H) : tC v σ H Q := h
theorem g_op {r : R2} (h : ta σ H fun x H1 => tb σ H1 fun y H2 => r x y H2 Q) : tOp r ta tb σ H Q := h
theorem g_un {r : V → Hp → VK → Prop} (h : ta σ H fun x H1 => r x H1 Q) : tUn r ta σ H Q := h
theorem g_I0 {g : Int → Int → V} (h : Q (g i j) H) : rI0 g (.int i) (.int j) H Q := ⟨i, j, rfl, rfl, h⟩
theorem g_I {C : Int → Int → Prop} {g : Int → Int → V} (hc : C i j) (h : Q (g i j) H) : rI C g (.int i) (.int j) H Q := ⟨i, j, rfl, rfl, hc, h⟩
theorem g_U {g : Int → V} (h : Q (g i) H) : rU g (.int i) H Q := ⟨i, rfl, h⟩
theorem g_eq (s : scal x y = true) (h : Q (.bl (decide (x = y))) H) : rEq x y H Q := ⟨s, h⟩
theorem g_ne (s : scal x y = true) (h : Q (.bl (!decide (x = y))) H) : rNe x y H Q := ⟨s, h⟩
theorem g_drop (h : te σ H fun _ H1 => D.nx σ H1) : tDrop te D σ H := h
theorem g_ret (h : te σ H D.rt) : tRet te D σ H := h
theorem g_next (h : D.nx σ H) : tNext D σ H := h
theorem g_ifS (h : c σ H fun b H1 => if b = true then t D σ H1 else u D σ H1) : tIfS c t u D σ H := h
theorem g_ifE (h : c σ H fun b H1 => if b = true then ta σ H1 Q else tb σ H1 Q) : tIf c ta tb σ H Q := h
theorem g_test {Q : Bool → Hp → Prop} (h : te σ H fun x H' => ∃ k, x = .bl k ∧ Q k H') : tTest te σ H Q := h
theorem g_tb {Q : Bool → Hp → Prop} (h : te σ H fun x H' => ∃ k, x = .bl k ∧ Q k H') : tB te σ H Q := h
theorem g_bl {Q : Bool → Prop} (h : Q b) : ∃ k, V.bl b = .bl k ∧ Q k := ⟨b, rfl, h⟩
theorem g_not {Q : Bool → Hp → Prop} (h : c σ H fun b H1 => Q (!b) H1) : tNot c σ H Q := h
theorem g_and {Q : Bool → Hp → Prop} (h : c σ H fun b H1 => if b = true then d σ H1 Q else Q false H1) : tAnd c d σ H Q := h
theorem g_or {Q : Bool → Hp → Prop} (h : c σ H fun b H1 => if b = true then Q true H1 else d σ H1 Q) : tOr c d σ H Q := h
theorem g_nil {Q : List V → Hp → Prop} (h : Q [] H) : tNil σ H Q := h
theorem g_cons {tr : TA} {Q : List V → Hp → Prop} (h : te σ H fun x H1 => tr σ H1 fun xs H2 => Q (x :: xs) H2) : tCons te tr σ H Q := h
theorem g_cb {r : List V → Hp → VK → Prop} {tr : TA} (h : tr σ H fun vs H1 => r vs H1 Q) : tCB r tr σ H Q := h
theorem g_call {sp : Sp} {dvs : List V} {E : XK} {tr : TA} (h : tr σ H fun vs H1 => sp (vs ++ dvs) H1 Q E) : tCall sp dvs E tr σ H Q := h
theorem g_ixL {z : Int} (hs : SqL K H p xs) (ha : atI xs z = some v) (h : Q v H) : rIxL K (.ref p) (.int z) H Q := ⟨p, xs, z, v, rfl, rfl, hs, ha, h⟩
theorem g_setL {z : Int} {Q : Hp → Prop} {n : Nat} {ys : List V} (hs : H p = some (.lst xs)) (ha : ixN xs.length z = some n) (e : xs.set n v = ys) (h : Q (upd H p (.lst ys))) : rSetL (.ref p) (.int z) v H Q := ⟨p, xs, z, n, rfl, rfl, hs, ha, by rw [e]; exact h⟩
theorem g_setL2 {z : Int} {Q : Hp → Prop} {n : Nat} {ys : List V} (ha : ixN xs.length z = some n) (e : xs.set n v = ys) (h : Q (upd H p (.lst ys))) : rSetL (.ref p) (.int z) v (upd H p (.lst xs)) Q :=
  ⟨p, xs, z, n, rfl, rfl, upd_same, ha, by rw [upd_upd, e]; exact h⟩
theorem g_int {Q : Int → Prop} {R : Prop} (h : Q i) : (∃ z, [V.int i] = [.int z] ∧ Q z) ∨ R := .inl ⟨i, rfl, h⟩
theorem g_lst {tr : TA} (h : tr σ H fun xs H1 => xs.length ≤ sizeLine ∧ ∀ p, H1 p = none → Q (.ref p) (upd H1 p (.lst xs))) : tLst tr σ H Q := h
theorem g_tup {tr : TA} (h : tr σ H fun xs H1 => xs.length ≤ sizeLine ∧ ∀ p, H1 p = none → Q (.ref p) (upd H1 p (.tup xs))) : tTup tr σ H Q := h
theorem g_lenS {Q : List V → Prop} (hs : SqL K H p xs) (h : Q xs) : ∃ p' ys, [V.ref p] = [.ref p'] ∧ (SqL K H p' ys ∨ SqT K H p' ys) ∧ Q ys := ⟨p, xs, rfl, .inl hs, h⟩
theorem g_ite {A B : Prop} {P : Prop} [Decidable P] (h1 : P → A) (h2 : ¬ P → B) : if decide P = true then A else B := by
  by_cases h : P
  · rw [if_pos (decide_eq_true h)]; exact h1 h
  · rw [if_neg (fun e => h (of_decide_eq_true e))]; exact h2 h
theorem g_iteN {A B : Prop} {P : Prop} [Decidable P] (h1 : ¬ P → A) (h2 : P → B) : if (!decide P) = true then A else B := by
  by_cases h : P
  · rw [decide_eq_true h]; exact iteF (h2 h)
  · rw [decide_eq_false h]; exact iteT (h1 h)
theorem g_iteI {A B : Prop} (h1 : i = j → A) (h2 : i ≠ j → B) : if decide (V.int i = V.int j) = true then A else B :=
  g_ite (fun e => h1 (V.int.inj e)) (fun n => h2 fun e => n (congrArg V.int e))
theorem g_iteNI {A B : Prop} (h1 : i ≠ j → A) (h2 : i = j → B) : if (!decide (V.int i = V.int j)) = true then A else B :=
  g_iteN (fun n => h1 fun e => n (congrArg V.int e)) (fun e => h2 (V.int.inj e))
theorem g_iteB {A B : Prop} (h1 : b = true → A) (h2 : b = false → B) : if b = true then A else B := by
  cases b with
  | true => exact iteT (h1 rfl)
  | false => exact iteF (h2 rfl)
end
/-! ### loops and comprehensions -/
section
variable {K : PySem.W.Frag} {σ : L2.St} {H : Hp} {Q : VK} {D : Ends} {ta tb te tl : TE} {tbd : TS} {wi : TI} {g : TG} {tt : TT} {vs : List Nat} {p : Addr} {xs : List V} {z : Int} {k : Nat} {v : V}
def tForK (g : TG) (tb : TS) (D : Ends) (σ : L2.St) (J : It) (H1 : Hp) : Prop := ∃ W : Nat → Nat → L2.St → Hp → Prop, (∃ m, W 0 m σ H1) ∧ ∀ i m σ H, W i m σ H →
  (J.stop i H ∧ D.nx σ H) ∨ (J.go i H ∧ ∃ N : L2.St → Hp → Prop, (∀ σ' H', N σ' H' → ∃ m', m' < m ∧ W (i + 1) m' σ' H') ∧ ∀ x H', J.yld i H x H' → g x σ H' fun σ2 H2 => tb { D with nx := N, ct := N, bk := D.nx } σ2 H2)
def tLcK (g : TG) (tt : TT) (te : TE) (vs : List Nat) (σ : L2.St) (Q : VK) (J : It) (H1 : Hp) : Prop := ∀ D, H1 D = none → ∃ W : Nat → Nat → Hp → Prop, (∃ m, W 0 m (upd H1 D (.lst []))) ∧ ∀ i m H, W i m H →
  (J.stop i H ∧ Q (.ref D) H) ∨ (J.go i H ∧ ∃ Nx : Hp → Prop, (∀ H', Nx H' → ∃ m', m' < m ∧ W (i + 1) m' H') ∧ ∀ x H', J.yld i H x H' → g x (wipe σ vs) H' fun σ2 H2 => wipe σ2 vs = wipe σ vs ∧ tt σ2 H2 fun b H3 =>
    if b = true then te σ2 H3 fun y H4 => ∃ acc, H4 D = some (.lst acc) ∧ acc.length < sizeLine ∧ Nx (upd H4 D (.lst (acc ++ [y]))) else Nx H3)
theorem g_nn {R : Prop} (h : R) : V.non = V.non ∧ R := ⟨rfl, h⟩
theorem g_yes {Q : Bool → Hp → Prop} (h : Q true H) : tYes σ H Q := h
theorem g_for (h : wi σ H (tForK g tbd D σ)) : tFor wi g tbd D σ H := h
theorem g_lc (h : wi σ H (tLcK g tt te vs σ Q)) : tLc wi g tt te vs σ H Q := h
theorem g_iList {R : It → Hp → Prop} (h : tl σ H fun x H1 => ∃ a, x = .ref a ∧ (∃ xs, SqL K H1 a xs) ∧ R (Itl K a) H1) : iList K tl σ H R := h
theorem g_iRng1 {tr : TA} {R : It → Hp → Prop} (h : tr σ H fun vs H1 => ∃ j : Int, vs = [.int j] ∧ -(2 ^ 62) ≤ j ∧ j < 2 ^ 62 ∧ R (Itr 0 j.toNat) H1) : iRng1 tr σ H R := h
theorem g_iRng2 {tr : TA} {R : It → Hp → Prop} (h : tr σ H fun vs H1 => ∃ i j : Int, vs = [.int i, .int j] ∧ (-(2 ^ 62) ≤ i ∧ i < 2 ^ 62 ∧ -(2 ^ 62) ≤ j ∧ j < 2 ^ 62) ∧ R (Itr i (j - i).toNat) H1) : iRng2 tr σ H R := h
theorem g_sl {r : V → Option Int → Option Int → Hp → VK → Prop} {tlo thi : TO} (h : te σ H fun x H1 => tlo σ H1 fun l H2 => thi σ H2 fun u H3 => r x l u H3 Q) : tSl r te tlo thi σ H Q := h
theorem g_noPart {Q : Option Int → Hp → Prop} (h : Q none H) : tNoPart σ H Q := h
theorem g_part {Q : Option Int → Hp → Prop} (h : te σ H fun x H1 => ∃ i, x = .int i ∧ Q (some i) H1) : tPart te σ H Q := h
theorem g_ex1 {Q : Int → Prop} (h : Q z) : ∃ i, V.int z = .int i ∧ Q i := ⟨z, rfl, h⟩
theorem g_ixS {x : Str} {c : Nat} (hl : x.length ≤ sizeLine) (ha : atI x.cps.toList z = some c) (h : Q (.str ⟨#[c]⟩) H) : rIxS (.str x) (.int z) H Q := ⟨x, z, c, rfl, rfl, hl, ha, h⟩
theorem g_bm {T : String} {r : V → List V → Hp → VK → Prop} {to : TE} {tr : TA} (h : to σ H fun x H1 => tyV K T x H1 ∧ tr σ H1 fun xs H2 => r x xs H2 Q) : tBM K T r to tr σ H Q := h
theorem g_tyL {R : Prop} (hs : H p = some (.lst xs)) (h : R) : tyV K "list" (.ref p) H ∧ R := ⟨.inl ⟨rfl, _, SqL.of hs⟩, h⟩
theorem g_app (hs : H p = some (.lst xs)) (hz : xs.length < sizeLine) (h : Q .non (upd H p (.lst (xs ++ [v])))) : rAppend (.ref p) [v] H Q := ⟨p, xs, v, rfl, rfl, hs, hz, h⟩
/-- for x in a list -/
theorem f_list (hS : SqL K H p xs) (Pv : Nat → L2.St → Hp → Prop) (h0 : Pv 0 σ H) (hl : ∀ i σ H, i ≤ xs.length → Pv i σ H → SqL K H p xs)
    (hs : ∀ i x σ H, xs[i]? = some x → Pv i σ H → g x σ H fun σ2 H2 => tbd { D with nx := Pv (i + 1), ct := Pv (i + 1), bk := D.nx } σ2 H2) (hd : ∀ σ H, Pv xs.length σ H → D.nx σ H) :
    ∃ a, V.ref p = .ref a ∧ (∃ xs, SqL K H a xs) ∧ tForK g tbd D σ (Itl K a) H := ⟨p, rfl, ⟨_, hS⟩, for_list Pv h0 hl hs hd⟩
/-- for k in range(z) -/
theorem f_rng1 (h1 : -(2 ^ 62) ≤ z) (h2 : z < 2 ^ 62) (Pv : Nat → L2.St → Hp → Prop) (h0 : Pv 0 σ H) (hs : ∀ i σ H, i < z.toNat → Pv i σ H → g (.int i) σ H fun σ2 H2 => tbd { D with nx := Pv (i + 1), ct := Pv (i + 1), bk := D.nx } σ2 H2) (hd : ∀ σ H, Pv z.toNat σ H → D.nx σ H) :
    ∃ j : Int, [V.int z] = [.int j] ∧ -(2 ^ 62) ≤ j ∧ j < 2 ^ 62 ∧ tForK g tbd D σ (Itr 0 j.toNat) H := ⟨z, rfl, h1, h2, for_range Pv h0 (fun i σ H hi p => by rw [Int.zero_add]; exact hs i σ H hi p) hd⟩
/-- a comprehension over a list -/
theorem f_lcL (hS : SqL K H p xs) (Pv : Addr → Nat → Hp → Prop) (h0 : ∀ D, H D = none → Pv D 0 (upd H D (.lst []))) (hl : ∀ D i H', H D = none → i ≤ xs.length → Pv D i H' → SqL K H' p xs)
    (hs : ∀ D i x H', H D = none → xs[i]? = some x → Pv D i H' → g x (wipe σ vs) H' fun σ2 H2 => wipe σ2 vs = wipe σ vs ∧ tt σ2 H2 fun b H3 => if b = true then te σ2 H3 fun y H4 => ∃ acc, H4 D = some (.lst acc) ∧ acc.length < sizeLine ∧ Pv D (i + 1) (upd H4 D (.lst (acc ++ [y]))) else Pv D (i + 1) H3)
    (hd : ∀ D H', H D = none → Pv D xs.length H' → Q (.ref D) H') : ∃ a, V.ref p = .ref a ∧ (∃ xs, SqL K H a xs) ∧ tLcK g tt te vs σ Q (Itl K a) H :=
  ⟨p, rfl, ⟨_, hS⟩, fun D nD => lc_list (xs := xs) (Pv D) (h0 D nD) (fun i H' hi q => hl D i H' nD hi q) (fun i x H' hx q => hs D i x H' nD hx q) fun H' q => hd D H' nD q⟩
/-- .. over range(z) -/
theorem f_lcR (h1 : -(2 ^ 62) ≤ z) (h2 : z < 2 ^ 62) (Pv : Addr → Nat → Hp → Prop) (h0 : ∀ D, H D = none → Pv D 0 (upd H D (.lst [])))
    (hs : ∀ D i H', H D = none → i < z.toNat → Pv D i H' → g (.int i) (wipe σ vs) H' fun σ2 H2 => wipe σ2 vs = wipe σ vs ∧ tt σ2 H2 fun b H3 => if b = true then te σ2 H3 fun y H4 => ∃ acc, H4 D = some (.lst acc) ∧ acc.length < sizeLine ∧ Pv D (i + 1) (upd H4 D (.lst (acc ++ [y]))) else Pv D (i + 1) H3)
    (hd : ∀ D H', H D = none → Pv D z.toNat H' → Q (.ref D) H') : ∃ j : Int, [V.int z] = [.int j] ∧ -(2 ^ 62) ≤ j ∧ j < 2 ^ 62 ∧ tLcK g tt te vs σ Q (Itr 0 j.toNat) H :=
  ⟨z, rfl, h1, h2, fun D nD => lc_range (Pv D) (h0 D nD) (fun i H' hi q => by rw [Int.zero_add]; exact hs D i H' nD hi q) fun H' q => hd D H' nD q⟩
/-- [f x for x in xs], nothing else made -/
theorem f_lcMap {j : Nat} (hS : SqL K H p xs) (hz : xs.length ≤ 100000) (f : V → V) (hw : ∀ x, wipe ((wipe σ vs).set j (some x)) vs = wipe σ vs)
    (he : ∀ (i : Nat) x H' (Q' : VK), xs[i]? = some x → Same H H' → Q' (f x) H' → te ((wipe σ vs).set j (some x)) H' Q') (hd : ∀ D, H D = none → Q (.ref D) (upd H D (.lst (xs.map f)))) :
    ∃ a, V.ref p = .ref a ∧ (∃ xs, SqL K H a xs) ∧ tLcK (gName j) tYes te vs σ Q (Itl K a) H :=
  f_lcL hS (fun D i H' => H' = upd H D (.lst ((xs.take i).map f))) (fun D _ => rfl) (fun D i H' nD _ e => by rw [e]; exact (same_new nD).seq hS)
    (fun D i x H' nD hx e => ⟨hw x, (by
      suffices hh : te ((wipe σ vs).set j (some x)) H' (fun y H4 => ∃ acc, H4 D = some (.lst acc) ∧ acc.length < sizeLine ∧ upd H4 D (.lst (acc ++ [y])) = upd H D (.lst ((xs.take (i + 1)).map f))) by exact hh
      refine he i x H' _ hx (by rw [e]; exact same_new nD) ?_
      have hi := (List.getElem?_eq_some_iff.mp hx).1
      subst e
      refine ⟨_, upd_same, ?_, ?_⟩
      · rw [List.length_map, List.length_take]; exact Nat.lt_of_le_of_lt (Nat.min_le_right _ _) (Nat.lt_of_le_of_lt hz (by decide))
      · rw [upd_upd, List.take_succ, hx]; simp)⟩) (fun D H' nD e => by rw [e, List.take_length]; exact hd D nD)
/-- [f i for i in range(z)], nothing else made -/
theorem f_lcMapR {j : Nat} (h1 : -(2 ^ 62) ≤ z) (h2 : z ≤ 100000) (f : Nat → V) (hw : ∀ x, wipe ((wipe σ vs).set j (some x)) vs = wipe σ vs)
    (he : ∀ (i : Nat) H' (Q' : VK), i < z.toNat → Same H H' → Q' (f i) H' → te ((wipe σ vs).set j (some (.int i))) H' Q') (hd : ∀ D, H D = none → Q (.ref D) (upd H D (.lst ((List.range z.toNat).map f)))) :
    ∃ j' : Int, [V.int z] = [.int j'] ∧ -(2 ^ 62) ≤ j' ∧ j' < 2 ^ 62 ∧ tLcK (gName j) tYes te vs σ Q (Itr 0 j'.toNat) H :=
  f_lcR h1 (by omega) (fun D i H' => H' = upd H D (.lst ((List.range i).map f))) (fun D _ => rfl)
    (fun D i H' nD hi e => ⟨hw _, (by
      suffices hh : te ((wipe σ vs).set j (some (.int i))) H' (fun y H4 => ∃ acc, H4 D = some (.lst acc) ∧ acc.length < sizeLine ∧ upd H4 D (.lst (acc ++ [y])) = upd H D (.lst ((List.range (i + 1)).map f))) by exact hh
      refine he i H' _ hi (by rw [e]; exact same_new nD) ?_
      subst e
      refine ⟨_, upd_same, ?_, ?_⟩
      · rw [List.length_map, List.length_range]; exact Nat.lt_of_lt_of_le (m := 100000) (by omega) (by decide)
      · rw [upd_upd, List.range_succ]; simp)⟩) (fun D H' nD e => by rw [e]; exact hd D nD)
end
theorem cut_to (xs : List V) (k : Nat) : cutV xs none (some (k : Int)) = xs.take k := by
  unfold cutV
  rw [show HT.sIx xs.length xs.length (some (k : Int)) = min k xs.length from HT.sIx_nat xs.length xs.length k, HT.sIx_none, List.drop_zero, Nat.sub_zero]
  by_cases h : k ≤ xs.length
  · rw [Nat.min_eq_left h]
  · rw [Nat.min_eq_right (by omega), List.take_length, List.take_of_length_le (by omega)]
theorem cut_from (xs : List V) (k : Nat) : cutV xs (some (k : Int)) none = xs.drop k := by
  unfold cutV
  rw [show HT.sIx xs.length 0 (some (k : Int)) = min k xs.length from HT.sIx_nat xs.length 0 k, HT.sIx_none]
  by_cases h : k ≤ xs.length
  · rw [Nat.min_eq_left h, List.take_of_length_le (by rw [List.length_drop] <;> omega)]
  · rw [Nat.min_eq_right (by omega), List.drop_of_length_le (Nat.le_refl _), List.drop_of_length_le (by omega), List.take_nil]
theorem g_slL {K : PySem.W.Frag} {H : Hp} {Q : VK} {p : Addr} {xs ys : List V} {lo hi : Option Int} (hS : SqL K H p xs) (e : cutV xs lo hi = ys) (h : ∀ q, H q = none → Q (.ref q) (upd H q (.lst ys))) : rSlL K (.ref p) lo hi H Q := ⟨p, xs, rfl, hS, by rw [e]; exact h⟩
theorem map_at {ns : List Int} {i : Nat} {x : V} (h : (ns.map V.int)[i]? = some x) : ∃ n, ns[i]? = some n ∧ x = .int n := by
  rw [List.getElem?_map] at h
  cases e : ns[i]? with
  | none => rw [e] at h; cases h
  | some n => rw [e] at h; exact ⟨n, rfl, (Option.some.inj h).symm⟩
theorem map_atS {ns : List Str} {i : Nat} {x : V} (h : (ns.map V.str)[i]? = some x) : ∃ n, ns[i]? = some n ∧ x = .str n := by
  rw [List.getElem?_map] at h
  cases e : ns[i]? with
  | none => rw [e] at h; cases h
  | some n => rw [e] at h; exact ⟨n, rfl, (Option.some.inj h).symm⟩
theorem lt_at {α : Type} {l : List α} {i : Nat} {x : α} (h : l[i]? = some x) : i < l.length := (List.getElem?_eq_some_iff.mp h).1
theorem sz_lt {n : Nat} (h : n < 100000) : n < sizeLine := Nat.lt_of_lt_of_le h (by decide)
theorem sz_le {n : Nat} (h : n ≤ 100000) : n ≤ sizeLine := Nat.le_trans h (by decide)
/-! ### data, texts -/
theorem len_cat (x y : Str) : (x ++ y).length = x.length + y.length := by rw [TL.len_tl, TL.tl_append, List.length_append, ← TL.len_tl, ← TL.len_tl]
theorem strOk_of {x : Str} (h : ∀ c ∈ x.cps.toList, c < 1114112) : PyData.strOk x = true := by
  unfold PyData.strOk; rw [← Array.all_toList, List.all_eq_true]; exact fun c hc => decide_eq_true (h c hc)
theorem strOk_mem {x : Str} (h : PyData.strOk x = true) : ∀ c ∈ x.cps.toList, c < 1114112 := by
  unfold PyData.strOk at h; rw [← Array.all_toList, List.all_eq_true] at h; exact fun c hc => of_decide_eq_true (h c hc)
theorem strOk_cat {x y : Str} (hx : PyData.strOk x = true) (hy : PyData.strOk y = true) : PyData.strOk (x ++ y) = true := strOk_of fun c hc => by
  have e : (x ++ y).cps.toList = x.cps.toList ++ y.cps.toList := TL.tl_append x y
  rw [e] at hc
  rcases List.mem_append.mp hc with h | h
  · exact strOk_mem hx c h
  · exact strOk_mem hy c h
theorem strOk_sign {x : Str} {c : Nat} (hx : PyData.strOk x = true) (h : c ∈ x.cps.toList) : PyData.strOk (⟨#[c]⟩ : Str) = true := strOk_of fun d hd => by
  have : d = c := by simpa using hd
  subst this; exact strOk_mem hx _ h
theorem shaped_list {ds : List PyData} (h1 : PyData.canLayAll0 ds = true) (h2 : PyData.depthAll ds ≤ 60) : SeqAt.shaped (.list ds) = true := by
  unfold SeqAt.shaped; rw [Bool.and_eq_true]
  exact ⟨by rw [PyData.canLay0]; exact h1, decide_eq_true (by rw [PyData.depth]; omega)⟩
theorem dpAll_strs {K : PySem.W.Frag} {H : Hp} : ∀ l : List Str, DpAll K H (l.map V.str) (l.map PyData.str)
  | [] => .nil
  | x :: r => .cons (.str x) (dpAll_strs r)
theorem lay_strs : ∀ l : List Str, (∀ z ∈ l, PyData.strOk z = true) → PyData.canLayAll0 (l.map PyData.str) = true
  | [], _ => rfl
  | x :: r, h => by
    rw [List.map_cons, PyData.canLayAll0, lay_strs r fun z hz => h z (List.mem_cons_of_mem _ hz), PyData.canLay0, h x List.mem_cons_self]; rfl
theorem depth_strs : ∀ l : List Str, PyData.depthAll (l.map PyData.str) = 0
  | [] => rfl
  | x :: r => by simp [PyData.depthAll, PyData.depth, depth_strs r]
theorem shaped_strs {l : List Str} (h : ∀ z ∈ l, PyData.strOk z = true) : SeqAt.shaped (.list (l.map PyData.str)) = true := shaped_list (lay_strs l h) (by rw [depth_strs]; decide)
theorem eqv_same {d : PyData} (h : SeqAt.shaped d = true) : PyData.eqv d d = true := SeqAt.eqv_refl d (SeqAt.canLay_of_shaped h)
theorem at_z {α : Type} {xs : List α} {z : Int} {j : Nat} {v : α} (e : z = (j : Int)) (h : xs[j]? = some v) : atI xs z = some v := by
  rw [e]; exact atI_nat h
section
variable {K : PySem.W.Frag} {σ : L2.St} {H : Hp} {Q : VK} {te to : TE}
theorem g_two {Q : Int → Int → Prop} {i j : Int} (h : Q i j) : ∃ a b, [V.int i, V.int j] = [.int a, .int b] ∧ Q a b := ⟨i, j, rfl, h⟩
theorem g_lenStr {Q : Str → Prop} {x : Str} (hl : x.length ≤ sizeLine) (h : Q x) : ∃ y, [V.str x] = [.str y] ∧ y.length ≤ sizeLine ∧ Q y := ⟨x, rfl, hl, h⟩
theorem g_m1 {r : V → List V → Hp → VK → Prop} (h : to σ H fun x H1 => (∃ a, x = .str a) ∧ te σ H1 fun y H2 => r x [y] H2 Q) : tM1 r to te σ H Q := h
theorem g_isS {x : Str} {R : Prop} (h : R) : (∃ a, V.str x = .str a) ∧ R := ⟨⟨x, rfl⟩, h⟩
theorem g_addS {x y : Str} {Q : Str → Str → Prop} (hz : x.length + y.length ≤ sizeLine) (h : Q x y) : ∃ i j, V.str x = .str i ∧ V.str y = .str j ∧ i.length + j.length ≤ sizeLine ∧ Q i j := ⟨x, y, rfl, rfl, hz, h⟩
theorem g_mulS {x : Str} {n : Int} {Q : Str → Int → Prop} (h1 : x.length ≤ 16) (h2 : n ≤ 1048576) (h3 : -(2 ^ 63 : Int) ≤ n) (h : Q x n) : ∃ z m, V.str x = .str z ∧ V.int n = .int m ∧ z.length ≤ 16 ∧ m ≤ 1048576 ∧ -(2 ^ 63 : Int) ≤ m ∧ Q z m := ⟨x, n, rfl, rfl, h1, h2, h3, h⟩
theorem g_join {x : Str} {p : Addr} {ys : List Str} {Q : Str → List Str → Prop} (hS : SqL K H p (ys.map V.str)) (hz : (ys.map (·.length)).sum + ys.length * x.length ≤ 16777216) (h : Q x ys) :
    ∃ a p', ∃ zs : List Str, V.str x = .str a ∧ [V.ref p] = [.ref p'] ∧ (SqL K H p' (zs.map V.str) ∨ SqT K H p' (zs.map V.str)) ∧ (zs.map (·.length)).sum + zs.length * a.length ≤ 16777216 ∧ Q a zs := ⟨x, p, ys, rfl, rfl, .inl hS, hz, h⟩
end
theorem map_atG {α : Type} {f : α → V} {l : List α} {i : Nat} {x : V} (h : (l.map f)[i]? = some x) : ∃ a, l[i]? = some a ∧ x = f a := by
  rw [List.getElem?_map] at h
  cases e : l[i]? with
  | none => rw [e] at h; cases h
  | some n => rw [e] at h; exact ⟨n, rfl, (Option.some.inj h).symm⟩
theorem foldl_cps (c : Array Nat) : ∀ (k : Nat) (acc : Array Nat), ((List.replicate k c).foldl (· ++ ·) acc).toList = acc.toList ++ (List.replicate k c.toList).flatten
  | 0, acc => by simp
  | k + 1, acc => by rw [List.replicate_succ, List.foldl_cons, foldl_cps c k, List.replicate_succ]; simp
theorem flat_one (a : Nat) : ∀ k : Nat, (List.replicate k [a]).flatten = List.replicate k a
  | 0 => rfl
  | k + 1 => by rw [List.replicate_succ, List.flatten_cons, flat_one a k, List.replicate_succ]; rfl
/-- one sign, n times -/
theorem mul_one_sign (c : Nat) (n : Int) : Txt.mul (⟨#[c]⟩ : Str) n = ⟨(List.replicate n.toNat c).toArray⟩ := by
  refine TL.ext_tl ?_
  show TL.tl _ = List.replicate n.toNat c
  unfold Txt.mul
  by_cases h1 : n < 1
  · rw [if_pos h1, show n.toNat = 0 by omega]; rfl
  · rw [if_neg h1]
    split
    · rename_i h
      have : n = 1 := by
        rcases Bool.or_eq_true_iff.mp h with h | h
        · exact eq_of_beq h
        · cases h
      subst this; rfl
    · show ((List.replicate n.toNat #[c]).foldl (· ++ ·) #[]).toList = _
      rw [foldl_cps]
      show [] ++ (List.replicate n.toNat [c]).flatten = _
      rw [flat_one]; rfl
/-! ### [f x for row in rows for x in row] -/
section
variable {K : PySem.W.Frag} {σ : L2.St} {H : Hp} {Q : VK} {te : TE} {wi wi1 : TI} {g g1 : TG} {tt tt1 : TT} {vs vs1 : List Nat} {p : Addr}
def tLc2K (g : TG) (tt : TT) (wi1 : TI) (g1 : TG) (tt1 : TT) (te : TE) (vs vs1 : List Nat) (σ : L2.St) (Q : VK) (J : It) (H1 : Hp) : Prop := ∀ D, H1 D = none → ∃ W : Nat → Nat → Hp → Prop, (∃ m, W 0 m (upd H1 D (.lst []))) ∧ ∀ i m H, W i m H →
  (J.stop i H ∧ Q (.ref D) H) ∨ (J.go i H ∧ ∃ Nx : Hp → Prop, (∀ H', Nx H' → ∃ m', m' < m ∧ W (i + 1) m' H') ∧ ∀ x H', J.yld i H x H' → g x (wipe σ vs) H' fun σ2 H2 => wipe σ2 vs = wipe σ vs ∧ tt σ2 H2 fun b H3 =>
    if b = true then wi1 σ2 H3 fun J1 H4 => ∃ W1 : Nat → Nat → Hp → Prop, (∃ m, W1 0 m H4) ∧ ∀ j k H, W1 j k H →
      (J1.stop j H ∧ Nx H) ∨ (J1.go j H ∧ ∃ Nx1 : Hp → Prop, (∀ H', Nx1 H' → ∃ k', k' < k ∧ W1 (j + 1) k' H') ∧ ∀ x H', J1.yld j H x H' → g1 x (wipe σ2 vs1) H' fun σ3 H5 => wipe σ3 vs1 = wipe σ2 vs1 ∧ tt1 σ3 H5 fun b H6 =>
        if b = true then te σ3 H6 fun y H7 => ∃ acc, H7 D = some (.lst acc) ∧ acc.length < sizeLine ∧ Nx1 (upd H7 D (.lst (acc ++ [y]))) else Nx1 H6)
    else Nx H3)
theorem g_lc2 (h : wi σ H (tLc2K g tt wi1 g1 tt1 te vs vs1 σ Q)) : tLc2 wi g tt wi1 g1 tt1 te vs vs1 σ H Q := h
theorem f_lc2Map {j1 j2 : Nat} {ps : List Addr} (row : Addr → List V) (hS : SqL K H p (ps.map V.ref)) (hr : ∀ a ∈ ps, SqL K H a (row a)) (hz : ((ps.map row).flatten).length ≤ 100000) (f : V → V)
    (hw : ∀ x, wipe ((wipe σ vs).set j1 (some x)) vs = wipe σ vs) (hj : ∀ x, ((wipe σ vs).set j1 (some x))[j1]? = some (some x)) (hw1 : ∀ x y, wipe ((wipe ((wipe σ vs).set j1 (some x)) vs1).set j2 (some y)) vs1 = wipe ((wipe σ vs).set j1 (some x)) vs1)
    (he : ∀ a x H' (Q' : VK), a ∈ ps → x ∈ row a → Same H H' → Q' (f x) H' → te ((wipe ((wipe σ vs).set j1 (some (.ref a))) vs1).set j2 (some x)) H' Q') (hd : ∀ D, H D = none → Q (.ref D) (upd H D (.lst (((ps.map row).flatten).map f)))) :
    ∃ a, V.ref p = .ref a ∧ (∃ xs, SqL K H a xs) ∧ tLc2K (gName j1) tYes (iList K (tVar j1)) (gName j2) tYes te vs vs1 σ Q (Itl K a) H := by
  refine ⟨p, rfl, ⟨_, hS⟩, fun D nD => ⟨fun i m H' => m = ps.length - i ∧ i ≤ ps.length ∧ H' = upd H D (.lst ((((ps.take i).map row).flatten).map f)), ⟨ps.length, rfl, Nat.zero_le _, rfl⟩, ?_⟩⟩
  rintro i m H' ⟨rfl, hi, rfl⟩
  have hS' : SqL K (upd H D (.lst ((((ps.take i).map row).flatten).map f))) p (ps.map V.ref) := (same_new nD).seq hS
  by_cases hlt : i < ps.length
  · have ei : ps[i]? = some ps[i] := List.getElem?_eq_getElem hlt
    generalize ps[i] = a at ei
    have ex : (ps.map V.ref)[i]? = some (.ref a) := by rw [List.getElem?_map, ei]; rfl
    have ha := List.mem_of_getElem? ei
    refine .inr ⟨⟨_, _, hS', ex⟩, fun H2 => H2 = upd H D (.lst ((((ps.take (i + 1)).map row).flatten).map f)), fun H2 e => ⟨ps.length - (i + 1), by omega, rfl, hlt, e⟩, fun x H2 hy => ?_⟩
    obtain ⟨rfl, fx⟩ := hy
    have : x = .ref a := Option.some.inj ((fx _ hS').symm.trans ex)
    subst this
    refine ⟨hw _, ?_⟩
    suffices hh : iList K (tVar j1) ((wipe σ vs).set j1 (some (.ref a))) (upd H D (.lst ((((ps.take i).map row).flatten).map f))) (fun J1 H4 => ∃ W1 : Nat → Nat → Hp → Prop, (∃ m, W1 0 m H4) ∧ ∀ j k H3, W1 j k H3 →
      (J1.stop j H3 ∧ H3 = upd H D (.lst ((((ps.take (i + 1)).map row).flatten).map f))) ∨ (J1.go j H3 ∧ ∃ Nx1 : Hp → Prop, (∀ H', Nx1 H' → ∃ k', k' < k ∧ W1 (j + 1) k' H') ∧ ∀ x H', J1.yld j H3 x H' → gName j2 x (wipe ((wipe σ vs).set j1 (some (.ref a))) vs1) H' fun σ3 H5 => wipe σ3 vs1 = wipe ((wipe σ vs).set j1 (some (.ref a))) vs1 ∧ tYes σ3 H5 fun b H6 =>
        if b = true then te σ3 H6 fun y H7 => ∃ acc, H7 D = some (.lst acc) ∧ acc.length < sizeLine ∧ Nx1 (upd H7 D (.lst (acc ++ [y]))) else Nx1 H6)) by exact hh
    have hra : SqL K H a (row a) := hr a ha
    refine ⟨.ref a, hj _, a, rfl, ⟨_, (same_new nD).seq hra⟩, fun j k H3 => k = (row a).length - j ∧ j ≤ (row a).length ∧ H3 = upd H D (.lst ((((ps.take i).map row).flatten ++ (row a).take j).map f)), ⟨(row a).length, rfl, Nat.zero_le _, by rw [List.take_zero, List.append_nil]⟩, ?_⟩
    rintro j k H3 ⟨rfl, hjl, rfl⟩
    have hra' : SqL K (upd H D (.lst ((((ps.take i).map row).flatten ++ (row a).take j).map f))) a (row a) := (same_new nD).seq hra
    have etk : ((ps.take (i + 1)).map row).flatten = ((ps.take i).map row).flatten ++ row a := by rw [List.take_succ, ei]; simp
    by_cases hj2 : j < (row a).length
    · have ej : (row a)[j]? = some (row a)[j] := List.getElem?_eq_getElem hj2
      generalize (row a)[j] = y at ej
      refine .inr ⟨⟨_, _, hra', ej⟩, fun H4 => H4 = upd H D (.lst ((((ps.take i).map row).flatten ++ (row a).take (j + 1)).map f)), fun H4 e => ⟨(row a).length - (j + 1), by omega, rfl, hj2, e⟩, fun x H4 hy => ?_⟩
      obtain ⟨rfl, fy⟩ := hy
      have : x = y := Option.some.inj ((fy _ hra').symm.trans ej)
      subst this
      refine ⟨hw1 _ _, ?_⟩
      suffices hh : te ((wipe ((wipe σ vs).set j1 (some (.ref a))) vs1).set j2 (some x)) (upd H D (.lst ((((ps.take i).map row).flatten ++ (row a).take j).map f))) (fun y H7 => ∃ acc, H7 D = some (.lst acc) ∧ acc.length < sizeLine ∧ upd H7 D (.lst (acc ++ [y])) = upd H D (.lst ((((ps.take i).map row).flatten ++ (row a).take (j + 1)).map f))) by exact hh
      refine he a x _ _ ha (List.mem_of_getElem? ej) (same_new nD) ⟨_, upd_same, sz_lt ?_, ?_⟩
      · have h1 : (((ps.take i).map row).flatten ++ row a).length ≤ ((ps.map row).flatten).length := by
          rw [← etk]
          have : (ps.map row).flatten = ((ps.take (i + 1)).map row).flatten ++ ((ps.drop (i + 1)).map row).flatten := by rw [← List.flatten_append, ← List.map_append, List.take_append_drop]
          rw [this, List.length_append]; omega
        rw [List.length_append] at h1
        rw [List.length_map, List.length_append, List.length_take]; omega
      · rw [upd_upd, List.take_succ, ej, ← List.append_assoc]; simp
    · refine .inl ⟨⟨_, hra', by omega⟩, ?_⟩
      rw [etk, show j = (row a).length by omega, List.take_length]
  · refine .inl ⟨⟨_, hS', by rw [List.length_map]; omega⟩, ?_⟩
    rw [show i = ps.length by omega, List.take_length]
    exact hd D nD
end
section
variable {K : PySem.W.Frag} {σ : L2.St} {H : Hp} {Q : VK}
theorem g_ckw {r : List V → List V → Hp → VK → Prop} {tr tk : TA} (h : tr σ H fun vs H1 => tk σ H1 fun zs H2 => r vs zs H2 Q) : tCKw r tr tk σ H Q := h
theorem g_iZip {ta : TA} {R : It → Hp → Prop} (h : ta σ H fun vs H1 => ∃ a b xs ys, vs = [.ref a, .ref b] ∧ SqL K H1 a xs ∧ SqL K H1 b ys ∧ R (Itz K a b) H1) : iZip K ta σ H R := h
theorem g_pad {x : Str} {i : Int} {Q : Str → Int → Prop} (hp : PadOk i = true) (h : Q x i) : ∃ a j, V.str x = .str a ∧ [V.int i] = [.int j] ∧ PadOk j = true ∧ Q a j := ⟨x, i, rfl, rfl, hp, h⟩
theorem padOk_small {i : Int} (h0 : 0 ≤ i) (h : i ≤ 100000) : PadOk i = true := by
  have hz : i.toNat ≤ sizeLine := sz_le (by omega)
  unfold PadOk fitsSsize Builtin.Str.tooLong
  rw [Bool.and_eq_true]
  refine ⟨?_, ?_⟩
  · simp; omega
  · simp; omega
end
section
variable {K : PySem.W.Frag} {σ : L2.St} {H : Hp} {Q : VK} {ta tb : TE}
theorem g_andV (h : ta σ H fun x H1 => ∃ c, x = .bl c ∧ if c = true then tb σ H1 Q else Q (.bl false) H1) : tAndV ta tb σ H Q := h
theorem g_orV (h : ta σ H fun x H1 => ∃ c, x = .bl c ∧ if c = true then Q (.bl true) H1 else tb σ H1 Q) : tOrV ta tb σ H Q := h
theorem iteNT {A B : Prop} (h : B) : if (!true) = true then A else B := by simpa using h
theorem iteNF {A B : Prop} (h : A) : if (!false) = true then A else B := by simpa using h
theorem g_listOf {p : Addr} {xs : List V} {Q : List V → Prop} (hs : SqL K H p xs) (h : Q xs) : ∃ p' ys, [V.ref p] = [.ref p'] ∧ (SqL K H p' ys ∨ SqT K H p' ys) ∧ Q ys := ⟨p, xs, rfl, .inl hs, h⟩
/-- isinstance of a text, an int, a list .. -/
theorem g_isiB {x : V} {T U : String} {b : Bool} (ty : TyX K H x (.type T)) (e : kitB T U = some b) (h : Q (.bl b) H) : rIsi K [x, .ty U] H Q := ⟨x, .ty U, _, _, b, rfl, .ty U, ty, kit_ty e, h⟩
end
/-! ### while, break, texts, powers -/
section
variable {K : PySem.W.Frag} {σ : L2.St} {H : Hp} {Q : VK} {D : Ends} {ta tb te : TE} {c : TT} {tbd : TS}
theorem f_while (W : Nat → L2.St → Hp → Prop) (m0 : Nat) (h0 : W m0 σ H)
    (hs : ∀ m σ H, W m σ H → c σ H fun b H1 => if b = true then ∃ N : L2.St → Hp → Prop, (∀ σ' H', N σ' H' → ∃ m', m' < m ∧ W m' σ' H') ∧ tbd { D with nx := N, ct := N, bk := D.nx } σ H1 else D.nx σ H1) : tWhile c tbd D σ H :=
  ⟨W, ⟨m0, h0⟩, hs⟩
theorem g_turn {W : Nat → L2.St → Hp → Prop} {m : Nat} {r : VK} {bk : L2.St → Hp → Prop} (h : tbd { nx := fun σ' H' => ∃ m', m' < m ∧ W m' σ' H', rt := r, bk := bk, ct := fun σ' H' => ∃ m', m' < m ∧ W m' σ' H' } σ H) :
    ∃ N : L2.St → Hp → Prop, (∀ σ' H', N σ' H' → ∃ m', m' < m ∧ W m' σ' H') ∧ tbd { nx := N, rt := r, bk := bk, ct := N } σ H := ⟨_, fun _ _ h => h, h⟩
theorem g_aug {k : Nat} {x : V} {ti : TIp} (e : σ[k]? = some (some x)) (h : te σ H fun y H1 => ti x y H1 fun z H2 => D.nx (σ.set k (some z)) H2) : tAug k te ti D σ H := ⟨x, e, h⟩
theorem g_ipI {g : Int → Int → Int} {i j : Int} (h : Q (.int (g i j)) H) : ipI g (.int i) (.int j) H Q := ⟨i, j, rfl, rfl, h⟩
theorem g_brk (h : D.bk σ H) : tBreak D σ H := h
theorem g_cont (h : D.ct σ H) : tCont D σ H := h
def CPowW (i j : Int) : Prop := 0 ≤ j ∧ (Builtin.Int.intBits i : Int) * j ≤ 2 ^ 27
theorem op_powW {X : Cx} : OpR X (binaryOp .Pow) (rI CPowW fun i j => .int (i ^ j.toNat)) := opI fun _ _ _ _ _ _ _ hc q => PyProof.Rows.pow_int hc.1 hc.2 q
theorem g_slS {x : Str} {lo hi : Option Int} {y : Str} (hl : x.length ≤ sizeLine) (e : cutS x lo hi = y) (h : Q (.str y) H) : rSlS (.str x) lo hi H Q := ⟨x, rfl, hl, by rw [e]; exact h⟩
/-- a slice of a text, both ends within or beyond -/
theorem cutS_nat (l : List Nat) (a b : Nat) : cutS (⟨l.toArray⟩ : Str) (some (a : Int)) (some (b : Int)) = ⟨((l.drop a).take (b - a)).toArray⟩ := by
  unfold cutS
  have e : (⟨l.toArray⟩ : Str).length = l.length := by simp [Str.length]
  rw [e, show HT.sIx l.length 0 (some (a : Int)) = min a l.length from HT.sIx_nat l.length 0 a, show HT.sIx l.length l.length (some (b : Int)) = min b l.length from HT.sIx_nat l.length l.length b]
  refine congrArg (fun l : List Nat => (⟨l.toArray⟩ : Str)) ?_
  show (l.drop (min a l.length)).take _ = _
  by_cases ha : a ≤ l.length
  · rw [Nat.min_eq_left ha]
    by_cases hb : b ≤ l.length
    · rw [Nat.min_eq_left hb]
    · rw [Nat.min_eq_right (by omega), List.take_of_length_le (by rw [List.length_drop] <;> omega), List.take_of_length_le (by rw [List.length_drop]; omega)]
  · rw [Nat.min_eq_right (show l.length ≤ a by omega), List.drop_of_length_le (Nat.le_refl _), List.drop_of_length_le (show l.length ≤ a by omega), List.take_nil, List.take_nil]
theorem cutS_to (l : List Nat) (b : Nat) : cutS (⟨l.toArray⟩ : Str) none (some (b : Int)) = ⟨(l.take b).toArray⟩ := by
  unfold cutS
  have e : (⟨l.toArray⟩ : Str).length = l.length := by simp [Str.length]
  rw [e, HT.sIx_none, show HT.sIx l.length l.length (some (b : Int)) = min b l.length from HT.sIx_nat l.length l.length b]
  refine congrArg (fun l : List Nat => (⟨l.toArray⟩ : Str)) ?_
  show (l.drop 0).take _ = _
  rw [List.drop_zero, Nat.sub_zero]
  by_cases hb : b ≤ l.length
  · rw [Nat.min_eq_left hb]
  · rw [Nat.min_eq_right (by omega), List.take_length, List.take_of_length_le (by omega)]
theorem g_sign {a : Nat} {z : Str} {Q : Nat → Str → Prop} (h : Q a z) : ∃ (c : Nat) (y : Str), V.str (⟨#[a]⟩ : Str) = .str ⟨#[c]⟩ ∧ V.str z = .str y ∧ Q c y := ⟨a, z, rfl, rfl, h⟩
end
section
variable {K : PySem.W.Frag} {σ : L2.St} {H : Hp} {Q : VK} {p : Addr} {tt : TT} {vs : List Nat}
theorem filt_snoc {ns : List Int} {ok : Int → Bool} {i : Nat} {n : Int} (h : ns[i]? = some n) : ((ns.take (i + 1)).filter ok) = (ns.take i).filter ok ++ (if ok n = true then [n] else []) := by
  rw [List.take_succ, h, List.filter_append]
  cases e : ok n <;> simp [e]
/-- [x for x in ints if ..], a test that makes nothing -/
theorem f_lcFilt {j : Nat} {ns : List Int} (hS : SqL K H p (ns.map V.int)) (hz : ns.length ≤ 90000) (ok : Int → Bool) (hw : ∀ x, wipe ((wipe σ vs).set j (some x)) vs = wipe σ vs) (hj : ∀ x, ((wipe σ vs).set j (some x))[j]? = some (some x))
    (ht : ∀ (i : Nat) n H' (Q' : Bool → Hp → Prop), ns[i]? = some n → Same H H' → Q' (ok n) H' → tt ((wipe σ vs).set j (some (.int n))) H' Q') (hd : ∀ D, H D = none → Q (.ref D) (upd H D (.lst ((ns.filter ok).map V.int)))) :
    ∃ a, V.ref p = .ref a ∧ (∃ xs, SqL K H a xs) ∧ tLcK (gName j) tt (tVar j) vs σ Q (Itl K a) H :=
  f_lcL hS (fun D i H' => H' = upd H D (.lst (((ns.take i).filter ok).map V.int))) (fun D _ => rfl) (fun D i H' nD _ e => by rw [e]; exact (same_new nD).seq hS)
    (fun D i x H' nD hx e => by
      obtain ⟨n, hn, rfl⟩ := map_at hx
      refine ⟨hw _, ht i n H' _ hn (by rw [e]; exact same_new nD) ?_⟩
      have sn := filt_snoc (ok := ok) hn
      subst e
      cases ho : ok n with
      | true =>
        rw [ho] at sn
        refine iteT ⟨_, hj _, _, upd_same, sz_lt ?_, ?_⟩
        · rw [List.length_map]
          have h1 := List.length_filter_le ok (ns.take i)
          rw [List.length_take] at h1; omega
        · rw [upd_upd, sn, List.map_append]; rfl
      | false =>
        rw [ho] at sn
        refine iteF ?_
        show upd H D _ = upd H D _
        rw [sn]; simp)
    fun D H' nD e => by
      rw [e, List.length_map, List.take_length]
      exact hd D nD
theorem filt_range {m i : Nat} {ok : Nat → Bool} : (List.range (i + 1)).filter ok = (List.range i).filter ok ++ (if ok i = true then [i] else []) := by
  rw [List.range_succ, List.filter_append]
  cases e : ok i <;> simp [e]
/-- [k for k in range(m) if ..], a test that makes nothing -/
theorem f_lcFiltR {j : Nat} {z : Int} {m : Nat} (hm : z = m) (hz : m ≤ 90000) (ok : Nat → Bool) (hw : ∀ x, wipe ((wipe σ vs).set j (some x)) vs = wipe σ vs) (hj : ∀ x, ((wipe σ vs).set j (some x))[j]? = some (some x))
    (ht : ∀ (i : Nat) H' (Q' : Bool → Hp → Prop), i < m → Same H H' → Q' (ok i) H' → tt ((wipe σ vs).set j (some (.int (i : Int)))) H' Q') (hd : ∀ D, H D = none → Q (.ref D) (upd H D (.lst (((List.range m).filter ok).map fun k : Nat => V.int (k : Int))))) :
    ∃ j' : Int, [V.int z] = [.int j'] ∧ -(2 ^ 62) ≤ j' ∧ j' < 2 ^ 62 ∧ tLcK (gName j) tt (tVar j) vs σ Q (Itr 0 j'.toNat) H := by
  subst hm
  refine f_lcR (by omega) (by omega) (fun D i H' => H' = upd H D (.lst (((List.range i).filter ok).map fun k : Nat => V.int (k : Int)))) (fun D _ => rfl)
    (fun D i H' nD hi e => ?_) fun D H' nD e => ?_
  · have hi : i < m := by omega
    refine ⟨hw _, ht i H' _ hi (by rw [e]; exact same_new nD) ?_⟩
    have sn := filt_range (m := m) (i := i) (ok := ok)
    subst e
    cases ho : ok i with
    | true =>
      rw [ho] at sn
      refine iteT ⟨_, hj _, _, upd_same, sz_lt ?_, ?_⟩
      · rw [List.length_map]
        have h1 := List.length_filter_le ok (List.range i)
        rw [List.length_range] at h1; omega
      · rw [upd_upd, sn, List.map_append]; rfl
    | false =>
      rw [ho] at sn
      refine iteF ?_
      show upd H D _ = upd H D _
      rw [sn]; simp
  · rw [e, Int.toNat_natCast]
    exact hd D nD
end
section
variable {K : PySem.W.Frag} {H : Hp} {Q : VK} {p : Addr} {xs : List V} {v : V}
theorem g_ixT {z : Int} (hs : SqT K H p xs) (ha : atI xs z = some v) (h : Q v H) : rIxT K (.ref p) (.int z) H Q := ⟨p, xs, z, v, rfl, rfl, hs, ha, h⟩
theorem g_lenT {Q : List V → Prop} (hs : SqT K H p xs) (h : Q xs) : ∃ p' ys, [V.ref p] = [.ref p'] ∧ (SqL K H p' ys ∨ SqT K H p' ys) ∧ Q ys := ⟨p, xs, rfl, .inr hs, h⟩
theorem g_isiS {x : Str} {U : String} {b : Bool} (e : kitB "str" U = some b) (h : Q (.bl b) H) : rIsi K [.str x, .ty U] H Q := g_isiB (.base (.str _)) e h
theorem g_isiI {i : Int} {U : String} {b : Bool} (e : kitB "int" U = some b) (h : Q (.bl b) H) : rIsi K [.int i, .ty U] H Q := g_isiB (.base (.int _)) e h
end
theorem log_small {i : Int} (h0 : 0 ≤ i) (h : i ≤ 1000000) : i.natAbs.log2 < 1920 := by
  by_cases hz : i.natAbs = 0
  · rw [hz]; decide
  · exact Nat.lt_trans ((Nat.log2_lt hz (k := 20)).mpr (by omega)) (by decide)
theorem my_c0 {X : Cx} {k j : Nat} {x : Str} {sp : Sp} {dvs : List V} {p pos : Pos} (c : C8.Cal X.prog X.w X.K X.mg X.base k x sp dvs) (hr : Room j X.A) (hk : k ≤ j) (hg : Gl X x) (hdb : (x == ("__debug__" : Str)) = false := by decide) : PE X (.Call (.Name x p) [] [] pos) (tCall sp dvs C8.E0 tNil) := by
  obtain ⟨f, fd, ps, ds, F, hm, kp, b, d⟩ := c.ex
  exact pe_call0 F (hr.mono hk) hg hm kp b d C8.pass0 hdb
section
variable {σ : L2.St} {H : Hp} {Q : VK} {ta tb tc : TE} {r r' : R2}
theorem g_chain (h : ta σ H fun x H1 => tb σ H1 fun y H2 => r x y H2 fun z H3 => ∃ k, z = .bl k ∧ (if k = true then tc σ H3 fun w' H4 => r' y w' H4 Q else Q (.bl false) H3)) : tChain r r' ta tb tc σ H Q := h
end
section
variable {σ : L2.St} {H : Hp} {Q : VK} {ta : TE}
theorem g_notV (h : ta σ H fun x H1 => ∃ c, x = .bl c ∧ Q (.bl (!c)) H1) : tNotV ta σ H Q := h
end
section
variable {σ : L2.St} {H : Hp} {t : TG} {ts : TGs} {x : V} {r : List V} {Q : L2.St → Hp → Prop}
theorem g_gcons (h : t x σ H fun σ' H' => ts r σ' H' Q) : gCons t ts (x :: r) σ H Q := by first | exact h | exact ⟨x, r, rfl, h⟩
theorem g_gnil (h : Q σ H) : gNil [] σ H Q := by first | exact h | exact ⟨rfl, h⟩
end
end WL
set_option Elab.async false
set_option linter.all false
set_option maxRecDepth 100000
set_option maxHeartbeats 4000000
namespace WOwn
open PySem PySem.Spec PyProof.Rows L2
open PySem.W hiding CmpBack
theorem cmpBack {X : Cx} {pins : List (Addr × Obj)} {σ : L2.St} {Q : VK} {u : Value} {s' : Shared} (h : EP X pins σ Q u s') : PySem.W.CmpBack (EP X pins σ Q) u s' := by
  obtain ⟨v, H', I, r, q⟩ := id h
  unfold PySem.W.CmpBack
  cases u with
  | notImplemented => cases v <;> first | exact False.elim r | (obtain ⟨_, z⟩ := r; cases z) | cases r
  | _ => exact h
/-! ### what the class says of an own operator, and the operator's def -/
structure OpK (K : PySem.W.Frag) (C f : Addr) (nm : Str) : Prop where
  hs : findIn K (.ref C) nm = some (some (.ref f))
  hf : isFn K (.ref f) = true
  hc : selfFirst K C = true
structure OpM (P : Program) (w : World) (K : PySem.W.Frag) (mg : Str → Option Value) (base : Heap) (CX : CXT) (k : Nat) (C : Addr) (nm : Str) (sp : Sp) : Prop where
  ex : ∃ (f : Addr) (fd : FuncData) (ps : List Str), OpK K C f nm ∧ FnOk P w K mg base CX k f fd ps sp ∧ Binds K fd ps []
def Ins (C : Addr) (H : Hp) (a : Addr) : Prop := ∃ dx fs, H a = some (.ins C dx fs)
section
variable {X : Cx} {CX : CXT} {C : Addr} {k j : Nat} {sp : Sp} {E : XK}
/-- a op b, both of the class at C -/
def rOwn (C : Addr) (sp : Sp) (E : XK) : R2 := fun x y H Q => ∃ a b, x = .ref a ∧ y = .ref b ∧ Ins C H a ∧ Ins C H b ∧ sp [.ref a, .ref b] H Q E
theorem op_own {op : Operator} (M : OpM X.prog X.w X.K X.mg X.base CX k C (PySem.dunder op.info.2) sp) (hr : Room j X.A) (hk : k ≤ j) (hx : Passes CX X E) : OpR X (binaryOp op) (rOwn C sp E) := by
  intro pins s σ H x y v u Q I rx ry hq
  obtain ⟨a, b, rfl, rfl, ⟨dx, fs, ha⟩, ⟨dy, gs, hb⟩, hsp⟩ := hq
  obtain ⟨f, fd, ps, O, F, bd⟩ := M.ex
  cases rx
  cases ry
  obtain ⟨mA, J, _⟩ := ins_get I.hok ha
  obtain ⟨mB, J', _⟩ := ins_get I.hok hb
  obtain ⟨od, J, _⟩ := J.look
  obtain ⟨od', J', _⟩ := J'.look
  obtain ⟨m, hF⟩ := I.fr
  refine binop_K hF I.ok.mod.kin J J'.type O.hc O.hs O.hf ?_
  exact wpAny_mono (run_fn F (hr.mono hk) bd .nil hx I (show Vals [V.ref a, V.ref b] [Value.ref a, Value.ref b] from .cons rfl (.cons rfl .nil)) hsp) (fun v s' h => cmpBack h) fun _ _ h => h
/-- a op n, n an int -/
def rOwnI (C : Addr) (sp : Sp) (E : XK) : R2 := fun x y H Q => ∃ a i, x = .ref a ∧ y = .int i ∧ Ins C H a ∧ sp [.ref a, .int i] H Q E
/-- .. what is asked of the class and of int -/
structure OpI (K : PySem.W.Frag) (C : Addr) (op : Operator) : Prop where
  hr : ∃ rc, findIn K (.ref C) (dunderR op.info.2) = some rc ∧ (rc = none ∨ ∃ g : Addr, rc = some (.ref g))
  h1 : ∃ fo, findIn K (.type "int") (PySem.dunder op.info.2) = some fo
  h2 : ∃ ro, findIn K (.type "int") (dunderR op.info.2) = some ro
  sub : subIn K (.type "int") (.ref C) = some false
theorem op_ownI {op : Operator} (M : OpM X.prog X.w X.K X.mg X.base CX k C (PySem.dunder op.info.2) sp) (OI : OpI X.K C op) (hr : Room j X.A) (hk : k ≤ j) (hx : Passes CX X E) : OpR X (binaryOp op) (rOwnI C sp E) := by
  intro pins s σ H x y v u Q I rx ry hq
  obtain ⟨a, i, rfl, rfl, ⟨dx, fs, ha⟩, hsp⟩ := hq
  obtain ⟨f, fd, ps, O, F, bd⟩ := M.ex
  cases rx
  obtain ⟨tk, rfl⟩ := ry
  obtain ⟨mA, J, _⟩ := ins_get I.hok ha
  obtain ⟨od, J, _⟩ := J.look
  obtain ⟨m, hF⟩ := I.fr
  obtain ⟨rc, hrc, hp⟩ := OI.hr
  obtain ⟨fo, h1⟩ := OI.h1
  obtain ⟨ro, h2⟩ := OI.h2
  refine ksp_binT (T := "int") hF I.ok.mod.kin J rfl O.hc O.hs O.hf hrc hp h1 h2 OI.sub ?_
  exact wpAny_mono (run_fn F (hr.mono hk) bd .nil hx I (show Vals [V.ref a, V.int i] [Value.ref a, Value.int i tk] from .cons rfl (.cons ⟨_, rfl⟩ .nil)) hsp) (fun v s' h => cmpBack h) fun _ _ h => h
/-- -a, ~a -/
def rOwnU (C : Addr) (sp : Sp) (E : XK) : V → Hp → VK → Prop := fun x H Q => ∃ a, x = .ref a ∧ Ins C H a ∧ sp [.ref a] H Q E
theorem un_negO (M : OpM X.prog X.w X.K X.mg X.base CX k C "__neg__" sp) (hr : Room j X.A) (hk : k ≤ j) (hx : Passes CX X E) : UnR X (unaryOp .USub) (rOwnU C sp E) := by
  intro pins s σ H x v Q I rx hq
  obtain ⟨a, rfl, ⟨dx, fs, ha⟩, hsp⟩ := hq
  obtain ⟨f, fd, ps, O, F, bd⟩ := M.ex
  cases rx
  obtain ⟨mA, J, _⟩ := ins_get I.hok ha
  obtain ⟨od, J, _⟩ := J.look
  obtain ⟨m, hF⟩ := I.fr
  exact ksp_neg hF I.ok.mod.kin J O.hs O.hf (run_fn F (hr.mono hk) bd .nil hx I (show Vals [V.ref a] [Value.ref a] from .cons rfl .nil) hsp)
theorem un_invO (M : OpM X.prog X.w X.K X.mg X.base CX k C "__invert__" sp) (hr : Room j X.A) (hk : k ≤ j) (hx : Passes CX X E) : UnR X (unaryOp .Invert) (rOwnU C sp E) := by
  intro pins s σ H x v Q I rx hq
  obtain ⟨a, rfl, ⟨dx, fs, ha⟩, hsp⟩ := hq
  obtain ⟨f, fd, ps, O, F, bd⟩ := M.ex
  cases rx
  obtain ⟨mA, J, _⟩ := ins_get I.hok ha
  obtain ⟨od, J, _⟩ := J.look
  obtain ⟨m, hF⟩ := I.fr
  exact ksp_inv hF I.ok.mod.kin J O.hs O.hf (run_fn F (hr.mono hk) bd .nil hx I (show Vals [V.ref a] [Value.ref a] from .cons rfl .nil) hsp)
/-- a def runs somewhere below the running body -/
theorem run_at {f : Addr} {fd : FuncData} {ps : List Str} {pins : List (Addr × Obj)} {σ : L2.St} {H : Hp} {s : Shared} {Q : VK} {us : List Value} {vs : List V} {A : Around} (F : FnOk X.prog X.w X.K X.mg X.base CX k f fd ps sp) (hr : Room k A) (e0 : Env0 X.prog X.w X.K X.mg X.base A X.stack s H)
    (hb : Binds X.K fd ps []) (hx : Passes CX X E) (I : L2.Inv X pins σ H s) (r : Vals vs us) (h : sp vs H Q E) : wpAny (model X.prog X.w) A (call (.ref f) us) (EP X pins σ Q) X.xe s := by
  have hl : us.length = ps.length := by rw [← r.length]; exact F.len _ _ _ _ h
  have b := hb s us I.kIn (by rw [List.append_nil]; exact hl)
  rw [List.append_nil] at b
  refine wpAny_call (codeAny_mono (F.run A X.stack s H ⟨us, []⟩ us vs Q E hr e0 b r h) fun r s' hq => ?_)
  cases r with
  | error e => exact hx pins σ H s e s' I hq
  | ok fl =>
    cases fl with
    | ret u => exact I.after hq
    | next => exact False.elim hq
    | brk => exact False.elim hq
    | cont => exact False.elim hq
end
section
variable {prog : Program} {w : World} {A : Around} {E : Value → Shared → Prop} {s : Shared}
theorem code_bool_new {v : Value} {Q₁ : Value → Shared → Prop} (hq : wpAny (model prog w) A.in1 (truthy v) (fun b s' => Q₁ (.bool b) s') E s) :
    codeAny (model prog w) A (.call (.builtin "bool.__new__") ⟨[.type "bool", v], []⟩) (wants Q₁ E) s := by
  refine codeAny_of_tree ?_
  show wpAny _ A.in1 (do checkBuiltinCall "bool.__new__" ⟨[.type "bool", v], []⟩; again (.builtin "bool.__new__" ⟨[.type "bool", v], []⟩)) _ _ s
  refine wpAny_bind (wpAny_of_eq (PySem.F.newCall_bool_1 v) (wpAny_pure ⟨plainId_quiet (by decide +kernel) _, codeAny_builtin PySem.F.entry_bool_new ?_⟩))
  rw [Around.under_plainId (by decide +kernel) _]
  have f1 := PySem.F.conv_sub_bool
  have hq' : wpAny (model prog w) A.in1 (truthy v) (fun b s' => wpAny (model prog w) A.in1 (pure (Fin.done (.ret (.bool b)))) (fun fin s' => match fin with | .done f => wants Q₁ E (.ok f) s' | .again c' => c'.quiet = true ∧ codeAny (model prog w) A c' (wants Q₁ E) s') (fun e s' => wants Q₁ E (.error e) s') s') (fun e s' => wants Q₁ E (.error e) s') s :=
    wpAny_mono hq (fun b s' h => wpAny_pure h) fun _ _ h => h
  obtain ⟨hp, g, d, tk, os⟩ := s
  repeat (any_goals (first | assumption | wp_step))
theorem call_boolAny {v : Value} {Q : Value → Shared → Prop} (h : wpAny (model prog w) A.in1.in1 (truthy v) (fun b s' => Q (.bool b) s') E s) : wpAny (model prog w) A (call (.type "bool") [v]) Q E s := by
  refine ks_callType_codesW (Q₁ := fun obj s₁ => s₁.TypeIs obj "bool" ∧ Q obj s₁) PySem.F.called_bool (fun {Q' E'} hq => wpAny_of_eq (PySem.F.typeCall_bool_1 v) hq) PySem.F.entry_object_init (code_bool_new (wpAny_mono h (fun b s' hb => ⟨rfl, hb⟩) fun _ _ x => x)) fun obj s₁ h₁ => ?_
  obtain ⟨hT, hQ⟩ := h₁
  refine ⟨hT, PySem.F.args_object_init_2 obj v, ?_⟩
  exact object_init_meets PySem.F.called_bool.init.lookup PySem.F.called_bool.made PySem.F.newNe_bool prog w A.in1 _ s₁ ⟨hT, rfl, hQ⟩
end
section
variable {X : Cx} {CX : CXT} {C : Addr} {k j : Nat} {sp : Sp} {E : XK}
/-- bool(a) by an own __bool__ that gives a bool -/
def rOwnB (C : Addr) (sp : Sp) (E : XK) : List V → Hp → VK → Prop := fun xs H Q => ∃ a, xs = [.ref a] ∧ Ins C H a ∧ sp [.ref a] H (fun v H' => ∃ b, v = .bl b ∧ Q (.bl b) H') E
theorem call_boolO (M : OpM X.prog X.w X.K X.mg X.base CX k C "__bool__" sp) (hr : Room j X.A) (hk : k + 2 ≤ j) (hx : Passes CX X E) : CallR X (.type "bool") (rOwnB C sp E) := by
  intro pins s σ H xs us Q I rx hq
  obtain ⟨a, rfl, ⟨dx, fs, ha⟩, hsp⟩ := hq
  obtain ⟨f, fd, ps, O, F, bd⟩ := M.ex
  cases rx with
  | cons r1 r2 =>
  cases r2
  cases r1
  obtain ⟨mA, J, _⟩ := ins_get I.hok ha
  obtain ⟨od, J, _⟩ := J.look
  obtain ⟨m, hF⟩ := I.fr
  have hr2 : Room (k + 2) X.A := hr.mono hk
  refine call_boolAny (truthy_K hF I.ok.mod.kin J O.hs O.hf ?_)
  refine wpAny_mono (run_at F hr2.in1.in1 I.env0.in1.in1 bd hx I (show Vals [V.ref a] [Value.ref a] from .cons rfl .nil) hsp) (fun v s' h => ?_) fun _ _ h => h
  obtain ⟨v', H', I', r', b, rfl, q⟩ := h
  cases r'
  exact ⟨.bl b, H', I', rfl, q⟩
end
/-! ### == with an own __eq__, from either side -/
section
variable {prog : Program} {w : World} {A : Around} {E : Value → Shared → Prop} {hp : Heap} {g : Array GenState} {d : Drawn} {t : Nat} {os : OsState} {x C dx : Addr} {R : Result → Shared → Prop}
abbrev io (C dx : Addr) : Obj := PySem.W.instObj C dx
abbrev FinO (prog : Program) (w : World) (A : Around) (R : Result → Shared → Prop) : Fin → Shared → Prop := fun fin s' => match fin with
  | .done f => R (.ok f) s'
  | .again c' => c'.quiet = true ∧ codeAny (model prog w) A c' R s'
open AutoSeq1 (wpAny_loadPart')
theorem int_decl (b : Int) (u : Tok) (hx : hp.get? x = some (io C dx)) (h : R (.ok (.ret .notImplemented)) ⟨hp, g, d, t, os⟩) :
    wpAny (model prog w) A.in1 (Builtin.«int.__eq__» ⟨[.int b u, .ref x], []⟩) (FinO prog w A R) (fun e s' => R (.error e) s') ⟨hp, g, d, t, os⟩ := by
  wp_walk using wpAny_loadPart' hx, wpAny_load hx
  exact h
theorem bool_decl (b : Bool) (hx : hp.get? x = some (io C dx)) (h : R (.ok (.ret .notImplemented)) ⟨hp, g, d, t, os⟩) :
    wpAny (model prog w) A.in1 (Builtin.«int.__eq__» ⟨[.bool b, .ref x], []⟩) (FinO prog w A R) (fun e s' => R (.error e) s') ⟨hp, g, d, t, os⟩ := by
  wp_walk using wpAny_loadPart' hx, wpAny_load hx
  exact h
theorem str_decl (b : Str) (u : Tok) (hx : hp.get? x = some (io C dx)) (h : R (.ok (.ret .notImplemented)) ⟨hp, g, d, t, os⟩) :
    wpAny (model prog w) A.in1 (Builtin.«str.__eq__» ⟨[.str b u, .ref x], []⟩) (FinO prog w A R) (fun e s' => R (.error e) s') ⟨hp, g, d, t, os⟩ := by
  wp_walk using wpAny_loadPart' hx, wpAny_load hx
  exact h
theorem list_decl {l : Addr} {items : Array Value} {n : Nat} {dd : Option Addr} {sl : Array (Option Value)} (hl : hp.get? l = some { cls := .type "list", dict := dd, data := .seq items n, slots := sl }) (hin : PySem.W.Looks (model prog w) hp (isInstance (.ref x) (.type "list")) false) (hx : hp.get? x = some (io C dx)) (h : R (.ok (.ret .notImplemented)) ⟨hp, g, d, t, os⟩) :
    wpAny (model prog w) A.in1 (Builtin.«list.__eq__» ⟨[.ref l, .ref x], []⟩) (FinO prog w A R) (fun e s' => R (.error e) s') ⟨hp, g, d, t, os⟩ := by
  wp_walk using wpAny_loadPart' hl, Looks.at hin
  exact h
theorem tuple_decl {l : Addr} {items : Array Value} {n : Nat} {dd : Option Addr} {sl : Array (Option Value)} (hl : hp.get? l = some { cls := .type "tuple", dict := dd, data := .seq items n, slots := sl }) (hin : PySem.W.Looks (model prog w) hp (isInstance (.ref x) (.type "tuple")) false) (hx : hp.get? x = some (io C dx)) (h : R (.ok (.ret .notImplemented)) ⟨hp, g, d, t, os⟩) :
    wpAny (model prog w) A.in1 (Builtin.«tuple.__eq__» ⟨[.ref l, .ref x], []⟩) (FinO prog w A R) (fun e s' => R (.error e) s') ⟨hp, g, d, t, os⟩ := by
  wp_walk using wpAny_loadPart' hl, Looks.at hin
  exact h
theorem dict_decl {l : Addr} {es : Array DictEntry} {n : Nat} {dd : Option Addr} {sl : Array (Option Value)} (hl : hp.get? l = some { cls := .type "dict", dict := dd, data := .dict es n, slots := sl }) (hin : PySem.W.Looks (model prog w) hp (isInstance (.ref x) (.type "dict")) false) (hx : hp.get? x = some (io C dx)) (h : R (.ok (.ret .notImplemented)) ⟨hp, g, d, t, os⟩) :
    wpAny (model prog w) A.in1 (Builtin.«dict.__eq__» ⟨[.ref l, .ref x], []⟩) (FinO prog w A R) (fun e s' => R (.error e) s') ⟨hp, g, d, t, os⟩ := by
  wp_walk using wpAny_loadPart' hl, Looks.at hin
  exact h
end
section
variable {prog : Program} {w : World} {A : Around} {E : Value → Shared → Prop} {s : Shared} {K : PySem.W.Frag} {x C f : Addr} {ox : Obj} {od : Option Obj} {T id : String} {b : Value}
theorem rc_refl {Q : Value → Shared → Prop} (hu : A.units < cLine) (X : K.In s.heap) (hb : s.TypeIs b T) (I : InstAt s.heap x ox C od) (slot : Slot T (cmpInfo CmpOp.Eq).2.1 id) (hone : oneThing? .Eq b (.ref x) = none) (hd : ∀ Q' : Value → Shared → Prop, Q' .notImplemented s → wpAny (model prog w) A (call (.builtin id) [b, .ref x]) Q' E s)
    (hsub : mroIn K C (.type T) = some false) (hs : findIn K (.ref C) (cmpInfo CmpOp.Eq).2.2 = some (some (.ref f))) (hf : isFn K (.ref f) = true)
    (h : wpAny (model prog w) A (call (.ref f) [.ref x, b]) (PySem.W.CmpBack Q) E s) : wpAny (model prog w) A (richCompare .Eq b (.ref x)) Q E s := by
  have two : wpAny (model prog w) A (tryCompare (.ref x) (cmpInfo CmpOp.Eq).2.2 b) (fun r s' => ∃ v, r = some v ∧ Q v s') E s := by
    unfold tryCompare
    refine wpAny_bind (ifBound_K X I hs hf (wpAny_mono h (fun v s' hv => ?_) fun _ _ e => e))
    cases v <;> first | exact hv.elim | exact wpAny_pure ⟨_, rfl, hv⟩
  unfold richCompare
  simp only [hone]
  refine wpAny_holding (wpAny_bind (wpAny_cRoomFor hu ?_))
  refine wpAny_bind (wpAny_typeOf hb (wpAny_bind (I.type.here ?_)))
  have hne : (Value.type T != Value.ref C) = true := rfl
  simp only [hne, if_true]
  refine wpAny_bind ((looks_mroIn X hsub).here ?_)
  simp only [Bool.false_eq_true, if_false, Bool.not_false, if_true]
  refine wpAny_bind (m := tryCompare b _ (.ref x)) (wpAny_tryCompare_declines hb slot (hd _ ⟨rfl, ?_⟩))
  refine wpAny_bind (m := tryCompare (.ref x) _ b) (wpAny_mono two (fun r s' z => ?_) fun _ _ e => e)
  obtain ⟨v, rfl, hq⟩ := z
  exact wpAny_pure hq
end
/-- a value that is no instance of the class, with its type's name -/
inductive Oth (H : Hp) : V → String → Prop
  | non : Oth H .non "NoneType"
  | int (i : Int) : Oth H (.int i) "int"
  | bl (b : Bool) : Oth H (.bl b) "bool"
  | str (z : Str) : Oth H (.str z) "str"
  | lst {p : Addr} {xs : List V} (h : H p = some (.lst xs)) : Oth H (.ref p) "list"
  | tup {p : Addr} {xs : List V} (h : H p = some (.tup xs)) : Oth H (.ref p) "tuple"
  | dct {p : Addr} {kvs : List (Key × V)} (h : H p = some (.dK kvs)) : Oth H (.ref p) "dict"
def tys : List String := ["NoneType", "int", "bool", "str", "list", "tuple", "dict"]
structure EqK (K : PySem.W.Frag) (C : Addr) : Prop where
  nf : ∀ T ∈ tys, subIn K (.type T) (.ref C) = some false
  mr : ∀ T ∈ tys, mroIn K C (.type T) = some false
theorem eqK_of {K : PySem.W.Frag} {C : Addr} (a1 : subIn K (.type "NoneType") (.ref C) = some false) (a2 : subIn K (.type "int") (.ref C) = some false) (a3 : subIn K (.type "bool") (.ref C) = some false) (a4 : subIn K (.type "str") (.ref C) = some false) (a5 : subIn K (.type "list") (.ref C) = some false) (a6 : subIn K (.type "tuple") (.ref C) = some false) (a7 : subIn K (.type "dict") (.ref C) = some false)
    (b1 : mroIn K C (.type "NoneType") = some false) (b2 : mroIn K C (.type "int") = some false) (b3 : mroIn K C (.type "bool") = some false) (b4 : mroIn K C (.type "str") = some false) (b5 : mroIn K C (.type "list") = some false) (b6 : mroIn K C (.type "tuple") = some false) (b7 : mroIn K C (.type "dict") = some false) : EqK K C := by
  refine ⟨fun T hT => ?_, fun T hT => ?_⟩
  · unfold tys at hT
    simp only [List.mem_cons, List.not_mem_nil, or_false] at hT
    rcases hT with rfl | rfl | rfl | rfl | rfl | rfl | rfl <;> assumption
  · unfold tys at hT
    simp only [List.mem_cons, List.not_mem_nil, or_false] at hT
    rcases hT with rfl | rfl | rfl | rfl | rfl | rfl | rfl <;> assumption
section
variable {X : Cx} {CX : CXT} {C : Addr} {k j : Nat} {sp : Sp} {E : XK}
theorem Oth.mem {H : Hp} {x : V} {T : String} (h : Oth H x T) : T ∈ tys := by cases h <;> simp [tys]
theorem oth_type {pins : List (Addr × Obj)} {σ : L2.St} {H : Hp} {s : Shared} {x : V} {u : Value} {T : String} (I : L2.Inv X pins σ H s) (r : RelV x u) (h : Oth H x T) : PySem.W.Looks (model X.prog X.w) s.heap (typeOf u) (.type T) := by
  cases h with
  | non => cases r; exact Looks.of_pure rfl
  | int i => obtain ⟨t, rfl⟩ := r; exact Looks.of_pure rfl
  | bl b => cases r; exact Looks.of_pure rfl
  | str z => obtain ⟨t, rfl⟩ := r; exact Looks.of_pure rfl
  | lst h =>
    cases r
    obtain ⟨z, its, n, _, e⟩ := I.hok _ _ h
    exact fun A Q E s k q => wpAny_typeOf_ref (k _ _ e) q
  | tup h =>
    cases r
    obtain ⟨z, its, _, o, e, hc, n, hd⟩ := I.hok _ _ h
    exact fun A Q E s k q => wpAny_typeOf_ref (k _ _ e) (by rw [hc]; exact q)
  | dct h =>
    cases r
    obtain ⟨z, _, vs, _, o, es, ep, e, hx, _⟩ := I.hok _ _ h
    exact fun A Q E s k q => wpAny_typeOf_ref (k _ _ e) (by rw [hx.1]; exact q)
/-- a == y, y no instance -/
def rEqO (C : Addr) (sp : Sp) (E : XK) : R2 := fun x y H Q => ∃ a T, x = .ref a ∧ Ins C H a ∧ Oth H y T ∧ sp [.ref a, y] H Q E
theorem op_eqO (M : OpM X.prog X.w X.K X.mg X.base CX k C "__eq__" sp) (EK : EqK X.K C) (hr : Room j X.A) (hk : k ≤ j) (hx : Passes CX X E) : OpR X (compareOp .Eq) (rEqO C sp E) := by
  intro pins s σ H x y v u Q I rx ry hq
  obtain ⟨a, T, rfl, ⟨dx, fs, ha⟩, ho, hsp⟩ := hq
  obtain ⟨f, fd, ps, O, F, bd⟩ := M.ex
  cases rx
  obtain ⟨mA, J, _⟩ := ins_get I.hok ha
  obtain ⟨od, J, _⟩ := J.look
  obtain ⟨m, hF⟩ := I.fr
  show wpAny (model X.prog X.w) X.A (richCompare .Eq (.ref a) u) (EP X pins σ Q) X.xe s
  refine PySem.W.cmp_K (op := .Eq) hr.units0 hF I.ok.mod.kin J (oth_type I ry ho) (by unfold PySem.W.notFirst; rw [EK.nf _ ho.mem]; simp) O.hs O.hf ?_
  exact wpAny_mono (run_fn F (hr.mono hk) bd .nil hx I (show Vals [V.ref a, y] [Value.ref a, u] from .cons rfl (.cons ry .nil)) hsp) (fun v s' h => cmpBack h) fun _ _ h => h
/-- a == b, both instances -/
theorem op_eqS (M : OpM X.prog X.w X.K X.mg X.base CX k C "__eq__" sp) (hr : Room j X.A) (hk : k ≤ j) (hx : Passes CX X E) : OpR X (compareOp .Eq) (rOwn C sp E) := by
  intro pins s σ H x y v u Q I rx ry hq
  obtain ⟨a, b, rfl, rfl, ⟨dx, fs, ha⟩, ⟨dy, gs, hb⟩, hsp⟩ := hq
  obtain ⟨f, fd, ps, O, F, bd⟩ := M.ex
  cases rx
  cases ry
  obtain ⟨mA, J, _⟩ := ins_get I.hok ha
  obtain ⟨od, J, _⟩ := J.look
  obtain ⟨mB, J', _⟩ := ins_get I.hok hb
  obtain ⟨od', J', _⟩ := J'.look
  obtain ⟨m, hF⟩ := I.fr
  show wpAny (model X.prog X.w) X.A (richCompare .Eq (.ref a) (.ref b)) (EP X pins σ Q) X.xe s
  refine PySem.W.cmp_K (op := .Eq) (tb := .ref C) hr.units0 hF I.ok.mod.kin J J'.type (by simp [PySem.W.notFirst]) O.hs O.hf ?_
  exact wpAny_mono (run_fn F (hr.mono hk) bd .nil hx I (show Vals [V.ref a, V.ref b] [Value.ref a, Value.ref b] from .cons rfl (.cons rfl .nil)) hsp) (fun v s' h => cmpBack h) fun _ _ h => h
/-- y == a, y no instance and not None -/
def rEqR (C : Addr) (sp : Sp) (E : XK) : R2 := fun x y H Q => ∃ a T, y = .ref a ∧ x ≠ .non ∧ Ins C H a ∧ Oth H x T ∧ sp [.ref a, x] H Q E
theorem op_eqR (M : OpM X.prog X.w X.K X.mg X.base CX k C "__eq__" sp) (EK : EqK X.K C) (hr : Room j X.A) (hk : k ≤ j) (hx : Passes CX X E) : OpR X (compareOp .Eq) (rEqR C sp E) := by
  intro pins s σ H x y v u Q I rx ry hq
  obtain ⟨a, T, rfl, hnn, ⟨dx, fs, ha⟩, ho, hsp⟩ := hq
  obtain ⟨f, fd, ps, O, F, bd⟩ := M.ex
  cases ry
  obtain ⟨mA, J0, _⟩ := ins_get I.hok ha
  obtain ⟨od, J, _⟩ := J0.look
  have KX := I.kIn
  have last : wpAny (model X.prog X.w) X.A (call (.ref f) [.ref a, v]) (PySem.W.CmpBack (EP X pins σ Q)) X.xe s :=
    wpAny_mono (run_fn F (hr.mono hk) bd .nil hx I (show Vals [V.ref a, x] [Value.ref a, v] from .cons rfl (.cons rx .nil)) hsp) (fun v s' h => cmpBack h) fun _ _ h => h
  have ob : s.heap.get? a = some (io C dx) := J0.obj
  have inn : ∀ T' ∈ tys, PySem.W.Looks (model X.prog X.w) s.heap (isInstance (.ref a) (.type T')) false := fun T' hT => J.type.andThen (looks_mroIn KX (EK.mr T' hT))
  show wpAny (model X.prog X.w) X.A (richCompare .Eq v (.ref a)) (EP X pins σ Q) X.xe s
  have hm := EK.mr T ho.mem
  obtain ⟨hp, g, d, t, os⟩ := s
  cases ho with
  | non => exact absurd rfl hnn
  | int i =>
    obtain ⟨tk, rfl⟩ := rx
    exact rc_refl hr.units0 KX (T := "int") rfl J PySem.F.slot_int_eq (by rfl) (fun Q' h => GQ.call_here PySem.F.slot_int_eq rfl PySem.F.entry_int_eq (PySem.F.args_int_eq_2 _ _) (int_decl i tk ob h)) hm O.hs O.hf last
  | bl b =>
    cases rx
    exact rc_refl hr.units0 KX (T := "bool") rfl J PySem.F.slot_bool_eq (by rfl) (fun Q' h => GQ.call_here PySem.F.slot_bool_eq rfl PySem.F.entry_int_eq (PySem.F.args_int_eq_2 _ _) (bool_decl b ob h)) hm O.hs O.hf last
  | str z =>
    obtain ⟨tk, rfl⟩ := rx
    exact rc_refl hr.units0 KX (T := "str") rfl J PySem.F.slot_str_eq (by rfl) (fun Q' h => GQ.call_here PySem.F.slot_str_eq rfl PySem.F.entry_str_eq (PySem.F.args_str_eq_2 _ _) (str_decl z tk ob h)) hm O.hs O.hf last
  | @lst p xs h =>
    cases rx
    obtain ⟨z, its, n, _, e⟩ := I.hok _ _ h
    exact rc_refl hr.units0 KX (T := "list") ⟨_, e, rfl⟩ J PySem.F.slot_list_eq (by rfl) (fun Q' h => GQ.call_here PySem.F.slot_list_eq ⟨_, e, rfl⟩ PySem.F.entry_list_eq (PySem.F.args_list_eq_2 _ _) (list_decl e (inn _ (by simp [tys])) ob h)) hm O.hs O.hf last
  | @tup p xs h =>
    cases rx
    obtain ⟨z, its, _, o, e, hc, n, hd⟩ := I.hok _ _ h
    obtain ⟨oc, odi, oda, osl⟩ := o
    dsimp only at hc hd
    subst hc hd
    exact rc_refl hr.units0 KX (T := "tuple") ⟨_, e, rfl⟩ J PySem.F.slot_tuple_eq (by rfl) (fun Q' h => GQ.call_here PySem.F.slot_tuple_eq ⟨_, e, rfl⟩ PySem.F.entry_tuple_eq (PySem.F.args_tuple_eq_2 _ _) (tuple_decl e (inn _ (by simp [tys])) ob h)) hm O.hs O.hf last
  | @dct p kvs h =>
    cases rx
    obtain ⟨z, _, vs, _, o, es, ep, e, hx', hd, _⟩ := I.hok _ _ h
    have hc := hx'.1
    obtain ⟨oc, odi, oda, osl⟩ := o
    dsimp only at hc hd
    subst hc hd
    exact rc_refl hr.units0 KX (T := "dict") ⟨_, e, rfl⟩ J PySem.F.slot_dict_eq (by rfl) (fun Q' h => GQ.call_here PySem.F.slot_dict_eq ⟨_, e, rfl⟩ PySem.F.entry_dict_eq (PySem.F.args_dict_eq_2 _ _) (dict_decl e (inn _ (by simp [tys])) ob h)) hm O.hs O.hf last
end
/-! ### fields, methods, static methods, constants of a class -/
section
variable {X : Cx} {CX : CXT} {K : PySem.W.Frag} {C : Addr} {k j : Nat} {sp : Sp} {E : XK} {o e value : Expr} {es : List Expr} {f m : Str} {pos pos' apos : Pos} {ta tv te : TE} {t : TA} {pl : Sem Bool}
/-- o.f, o an instance of the class at C -/
def tFl (C : Addr) (ta : TE) (f : Str) : TE := fun σ H Q => ta σ H fun x H1 => ∃ a dx fs v, x = .ref a ∧ H1 a = some (.ins C dx fs) ∧ fs.lookup f = some v ∧ Q v H1
theorem pe_fl (c : Cls X.K C) (n : NoAttr X.K C f) (he : PE X e ta) (hb : attributeBase e f X.env (eval e X.env) = eval e X.env := by rfl) : PE X (.Attribute e f pos) (tFl C ta f) := by
  refine ⟨fun pins s σ H Q I h => ?_⟩
  refine attr_of hb (thn (he.run pins s σ H _ I h) fun u s1 ⟨x, H1, I1, rx, a, dx, fs, v, ex, ea, l, q⟩ => ?_)
  subst ex
  obtain rfl : u = Value.ref a := rx
  exact getattr_ok I1 ea c n l fun u' s2 I2 ru => ⟨v, H1, I2, ru, q⟩
def sFl (C : Addr) (ta tv : TE) (f : Str) : TS := fun D σ H => tv σ H fun y H1 => ta σ H1 fun x H2 => ∃ a dx fs, x = .ref a ∧ H2 a = some (.ins C dx fs) ∧ fs.length < 1000 ∧ D.nx σ (upd H2 a (.ins C dx (putF f y fs)))
theorem ps_fl (c : Cls X.K C) (n : NoAttr X.K C f) (ha : PE X o ta) (hv : PE X value tv) (hs : swapsWith value (some (.Attribute o f pos')) pos.line X.env = pure false := by rfl) : PS X (.Assign [.Attribute o f pos'] value pos) (sFl C ta tv f) := by
  refine ⟨fun pins s σ H D I h => ?_⟩
  refine plainObj_wpAny_Assign_Attribute (thn (hv.run pins s σ H _ I h) fun u s1 ⟨y, H1, I1, ry, q⟩ => thn (ha.run pins s1 σ H1 _ I1 q) fun ov s2 ⟨x, H2, I2, rx, a, dx, fs, ex, ea, l, q2⟩ => ?_) hs
  subst ex
  obtain rfl : ov = Value.ref a := rx
  exact setattr_ok I2 ea c n l ry fun s3 I3 => ⟨σ, _, I3, q2⟩
/-- a static method of the class -/
structure SMet (K : PySem.W.Frag) (C : Addr) (m : Str) (p g : Addr) : Prop where
  cr : ∃ mc, ClX.CRead K C mc ∧ findCls K (.ref C) mc m = some (.get (.builtin "staticmethod.__get__") (.ref p) .none (.ref C))
  rc : ∃ rest, recIn K p "staticmethod" = some (.ref g :: rest)
  kp : keepIn K (.ref g) = true
structure StM (P : Program) (w : World) (K : PySem.W.Frag) (mg : Str → Option Value) (base : Heap) (CX : CXT) (k : Nat) (C : Addr) (m : Str) (sp : Sp) : Prop where
  ex : ∃ (p g : Addr), SMet K C m p g ∧ FnR P w K mg base CX k g sp
def tSM (C : Addr) (sp : Sp) (E : XK) (ta : TE) (t : TA) : TE := fun σ H Q => ta σ H fun x H1 => x = .ref C ∧ t σ H1 fun vs H2 => sp vs H2 Q E
theorem pe_sm (M : StM X.prog X.w X.K X.mg X.base CX k C m sp) (hr : Room j X.A) (hk : k ≤ j) (hx : Passes CX X E) (he : PE X o ta) (ha : PA X (e :: es) t)
    (hst : starEach (e :: es) X.env = (false, eval e X.env) :: starEach es X.env := by rfl) (hpl : (backTo pos (starEach es X.env)).any (·.1) = false := by rfl)
    (ht : eval (.Call (.Attribute o m apos) (e :: es) [] pos) X.env = (do
      let ov ← eval o X.env
      standAt apos.atName
      let (f, first) ← holding [ov] (getMethod ov m pl)
      callWith pos f first (backTo pos (starEach (e :: es) X.env)) (backToKw pos (keywordEach [] X.env))) := by rfl) :
    PE X (.Call (.Attribute o m apos) (e :: es) [] pos) (tSM C sp E ta t) := by
  obtain ⟨p, g, ⟨⟨mc, r, at_⟩, ⟨rest, rc⟩, kp⟩, F⟩ := M.ex
  refine ⟨fun pins s σ H Q I h => ?_⟩
  refine PySem.W.methodCall_KW (pl := pl) (thn (he.run pins s σ H _ I h) fun u s1 ⟨x, H1, I1, rx, ex, q⟩ => ?_) ht
  subst ex
  obtain rfl : u = Value.ref C := rx
  refine PySem.W.method_cls I1.kIn r.ga (PySem.W.cls_bind I1.kIn r.rd at_ (wpAny_call (PySem.W.sm_get (s := { s1 with toks := s1.toks + 1 }) I1.kIn rc (PySem.W.handed_on rfl ?_))))
  have I2 := I1.tok (s1.toks + 1)
  refine PySem.W.callWith_K (h₀ := X.base) I.ok.mod.kin kp (thn (ha.run pos pins _ σ H1 _ I2 q) fun us s3 ⟨vs, H2, I3, rv, q2⟩ => ⟨I3.kIn, ?_⟩) hst hpl
  exact wpAny_call (run_fnR F (hr.mono hk) hx I3 rv q2)
theorem cvR {C : Addr} {f : Str} {v : V} {R : V → Prop} (h : ∃ mc u, ClX.CRead K C mc ∧ ClX.CVal K C mc f v u) (q : R v) : ∃ (C' : Addr) (mc : Value) (v : V) (u : Value), V.ref C = .ref C' ∧ ClX.CRead K C' mc ∧ ClX.CVal K C' mc f v u ∧ R v := by
  obtain ⟨mc, u, r, c⟩ := h
  exact ⟨C, mc, v, u, rfl, r, c, q⟩
theorem kpe_cval (K : PySem.W.Frag) (he : PE X e ta) (hK : X.K = K := by rfl) (hb : attributeBase e f X.env (eval e X.env) = eval e X.env := by rfl) : PE X (.Attribute e f pos) (ClX.tCVal K ta f) := by subst hK; exact ClX.pe_cval he hb
end
section
variable {K : PySem.W.Frag} {C : Addr} {sp : Sp} {E : XK} {σ : L2.St} {H : Hp} {Q : VK} {D : Ends} {ta tv : TE} {t : TA} {f m : Str} {dvs : List V} {x y : V}
theorem g_fl (h : ta σ H fun x H1 => ∃ a dx fs v, x = .ref a ∧ H1 a = some (.ins C dx fs) ∧ fs.lookup f = some v ∧ Q v H1) : tFl C ta f σ H Q := h
theorem g_flR {a dx : Addr} {fs : List (Str × V)} {v : V} {R : V → Prop} (ha : H a = some (.ins C dx fs)) (hl : fs.lookup f = some v) (h : R v) : ∃ (a' dx' : Addr) (fs : List (Str × V)) (v : V), V.ref a = .ref a' ∧ H a' = some (.ins C dx' fs) ∧ fs.lookup f = some v ∧ R v := ⟨a, dx, fs, v, rfl, ha, hl, h⟩
theorem g_sfl (h : tv σ H fun y H1 => ta σ H1 fun x H2 => ∃ a dx fs, x = .ref a ∧ H2 a = some (.ins C dx fs) ∧ fs.length < 1000 ∧ D.nx σ (upd H2 a (.ins C dx (putF f y fs)))) : sFl C ta tv f D σ H := h
theorem g_sflR {a dx : Addr} {fs : List (Str × V)} {R : Addr → Addr → List (Str × V) → Prop} (ha : H a = some (.ins C dx fs)) (hz : fs.length < 1000) (h : R a dx fs) : ∃ (a' dx' : Addr) (fs : List (Str × V)), V.ref a = .ref a' ∧ H a' = some (.ins C dx' fs) ∧ fs.length < 1000 ∧ R a' dx' fs := ⟨a, dx, fs, rfl, ha, hz, h⟩
theorem g_make (h : t σ H fun vs H1 => ∀ x dx, H1 x = none → H1 dx = none → dx ≠ x → sp (.ref x :: (vs ++ dvs)) (upd (upd H1 dx (.own x)) x (.ins C dx [])) (fun v H2 => v = .non ∧ Q (.ref x) H2) E) : tMake C sp dvs E t σ H Q := h
theorem g_meth (h : ta σ H fun x H1 => ∃ a dx fs, x = .ref a ∧ H1 a = some (.ins C dx fs) ∧ fs.lookup m = none ∧ t σ H1 fun vs H2 => sp (x :: (vs ++ dvs)) H2 Q E) : tMeth C m sp dvs E ta t σ H Q := h
theorem g_methR {a dx : Addr} {fs : List (Str × V)} {R : Prop} (ha : H a = some (.ins C dx fs)) (hl : fs.lookup m = none) (h : R) : ∃ (a' dx' : Addr) (fs : List (Str × V)), V.ref a = .ref a' ∧ H a' = some (.ins C dx' fs) ∧ fs.lookup m = none ∧ R := ⟨a, dx, fs, rfl, ha, hl, h⟩
theorem g_sm (h : ta σ H fun x H1 => x = .ref C ∧ t σ H1 fun vs H2 => sp vs H2 Q E) : tSM C sp E ta t σ H Q := h
theorem g_cv (h : ta σ H fun x H1 => ∃ C mc v u, x = .ref C ∧ ClX.CRead K C mc ∧ ClX.CVal K C mc f v u ∧ Q v H1) : ClX.tCVal K ta f σ H Q := h
theorem g_own {a b : Addr} (ha : Ins C H a) (hb : Ins C H b) (h : sp [.ref a, .ref b] H Q E) : rOwn C sp E (.ref a) (.ref b) H Q := ⟨a, b, rfl, rfl, ha, hb, h⟩
theorem g_ownI {a : Addr} {i : Int} (ha : Ins C H a) (h : sp [.ref a, .int i] H Q E) : rOwnI C sp E (.ref a) (.int i) H Q := ⟨a, i, rfl, rfl, ha, h⟩
theorem g_ownU {a : Addr} (ha : Ins C H a) (h : sp [.ref a] H Q E) : rOwnU C sp E (.ref a) H Q := ⟨a, rfl, ha, h⟩
theorem g_ownB {a : Addr} (ha : Ins C H a) (h : sp [.ref a] H (fun v H' => ∃ b, v = .bl b ∧ Q (.bl b) H') E) : rOwnB C sp E [.ref a] H Q := ⟨a, rfl, ha, h⟩
theorem g_eqO {a : Addr} {T : String} (ha : Ins C H a) (ho : Oth H y T) (h : sp [.ref a, y] H Q E) : rEqO C sp E (.ref a) y H Q := ⟨a, T, rfl, ha, ho, h⟩
theorem g_eqR {a : Addr} {T : String} (ha : Ins C H a) (hn : x ≠ .non) (ho : Oth H x T) (h : sp [.ref a, x] H Q E) : rEqR C sp E x (.ref a) H Q := ⟨a, T, rfl, hn, ha, ho, h⟩
/-- isinstance(a, C) -/
theorem g_isC {a dx : Addr} {fs : List (Str × V)} (c : C8.InsC K C) (ha : H a = some (.ins C dx fs)) (h : Q (.bl true) H) : rIsi K [.ref a, .ref C] H Q :=
  ⟨_, _, _, _, true, rfl, .own C, .base (TyOf.ins ha c.cl c.ha c.hn c.htk c.hm), c.me, h⟩
end
theorem kit_tyC {K : PySem.W.Frag} {C : Addr} {T : String} (h1 : isClsIn K C = true) (h2 : typeIn K (.ref C) = some (.type "type")) (h : subIn K (.type T) (.ref C) = some false) : kitOne K (.type T) (.ref C) = some false := by
  unfold kitOne
  rw [show (Value.type T == Value.ref C) = false from rfl, if_neg Bool.false_ne_true]
  unfold kitCls
  have h1' : (clsIn K C).isSome = true := h1
  simp only [h1', h2, beq_self_eq_true, Bool.and_self, if_true]
  exact h
/-- isinstance(y, C), y no instance -/
theorem g_isO {K : PySem.W.Frag} {C : Addr} {H : Hp} {Q : VK} {y : V} {T : String} (EK : EqK K C) (h1 : isClsIn K C = true) (h2 : typeIn K (.ref C) = some (.type "type")) (ho : Oth H y T) (h : Q (.bl false) H) : rIsi K [y, .ref C] H Q := by
  have hk := kit_tyC (T := T) h1 h2 (EK.nf T ho.mem)
  suffices hT : TyX K H y (.type T) by exact ⟨y, .ref C, _, _, false, rfl, .own C, hT, hk, h⟩
  cases ho with
  | non => exact .base .non
  | int i => exact .base (.int i)
  | bl b => exact .base (.bl b)
  | str z => exact .base (.str z)
  | lst h => exact .base (.lst h)
  | tup h => exact .base (.tup h)
  | dct h => exact .base (.dK h)
end WOwn
set_option Elab.async false
set_option linter.all false
set_option maxRecDepth 100000
set_option maxHeartbeats 4000000
namespace K12
open PySem PySem.Spec PyProof.Rows L2 WL
local macro_rules | `(tactic| walk_at "lk") => `(tactic| first
  | exact upd_same
  | assumption
  | (rw [upd_ne (by assumption)]; first | exact upd_same | assumption | (rw [upd_ne (by assumption)]; first | exact upd_same | assumption | (rw [upd_ne (by assumption)]; first | exact upd_same | assumption))))
local macro_rules | `(tactic| walk_at "go1") => `(tactic| first
  | (with_reducible refine g_seq ?_)
  | (with_reducible refine g_asg ?_)
  | (with_reducible refine g_name ?_)
  | (with_reducible refine g_sub ?_)
  | ((with_reducible refine' g_var ?gv ?_); (case gv => exact rfl))
  | (with_reducible refine g_c ?_)
  | (with_reducible refine g_op ?_)
  | (with_reducible refine g_un ?_)
  | (with_reducible refine g_I0 ?_)
  | ((with_reducible refine g_I ?gc ?_); (case gc => first | assumption | decide | (show (0 : Int) < _; omega) | exact Or.inr ⟨by omega, by omega⟩ | exact Or.inl ⟨by omega, by omega⟩ | exact ⟨by omega, by omega⟩))
  | (with_reducible refine iteT ?_)
  | (with_reducible refine iteF ?_)
  | (with_reducible refine iteNT ?_)
  | (with_reducible refine iteNF ?_)
  | (with_reducible refine g_andV ?_)
  | (with_reducible refine g_orV ?_)
  | ((with_reducible refine' g_lenS (by assumption) ?_))
  | ((with_reducible refine' g_lenS (SqL.of (by walk_at "lk")) ?_))
  | (with_reducible refine g_U ?_)
  | ((with_reducible refine g_eq ?gs ?_); (case gs => rfl))
  | ((with_reducible refine g_ne ?gs ?_); (case gs => rfl))
  | (with_reducible refine g_drop ?_)
  | (with_reducible refine g_ret ?_)
  | (with_reducible refine g_next ?_)
  | (with_reducible refine g_ifS ?_)
  | (with_reducible refine g_ifE ?_)
  | (with_reducible refine g_test ?_)
  | (with_reducible refine g_tb ?_)
  | (with_reducible refine g_bl ?_)
  | (with_reducible refine g_not ?_)
  | (with_reducible refine g_and ?_)
  | (with_reducible refine g_or ?_)
  | (with_reducible refine g_nil ?_)
  | (with_reducible refine g_cons ?_)
  | (with_reducible refine g_cb ?_)
  | (with_reducible refine g_call ?_)
  | (with_reducible refine g_int ?_)
  | (with_reducible refine g_two ?_)
  | ((with_reducible refine g_lenStr ?gz ?_); (case gz => first | assumption | exact sz_le (by omega)))
  | (with_reducible refine g_m1 ?_)
  | (with_reducible refine g_isS ?_)
  | (with_reducible refine g_nn ?_)
  | (with_reducible refine g_yes ?_)
  | (with_reducible refine g_for ?_)
  | (with_reducible refine g_ckw ?_)
  | (with_reducible refine g_chain ?_)
  | (with_reducible refine g_gcons ?_)
  | (with_reducible refine g_gnil ?_)
  | (with_reducible refine g_notV ?_)
  | (with_reducible refine g_iZip ?_)
  | (with_reducible refine g_lc ?_)
  | (with_reducible refine g_lc2 ?_)
  | (with_reducible refine g_iList ?_)
  | (with_reducible refine g_iRng1 ?_)
  | (with_reducible refine g_iRng2 ?_)
  | (with_reducible refine g_sl ?_)
  | (with_reducible refine g_noPart ?_)
  | (with_reducible refine g_part ?_)
  | (with_reducible refine g_ex1 ?_)
  | (with_reducible refine g_bm ?_)
  | ((with_reducible refine' g_tyL (by walk_at "lk") ?_))
  | ((with_reducible refine' g_aug ?gv ?_); (case gv => exact rfl))
  | (with_reducible refine g_ipI ?_)
  | (with_reducible refine g_turn ?_)
  | (with_reducible refine g_brk ?_)
  | (with_reducible refine g_cont ?_)
  | (with_reducible refine g_sign ?_)
  | (with_reducible refine g_lst ?_)
  | (with_reducible refine g_tup ?_)
  | ((with_reducible refine' g_ixL (by assumption) ?ga ?_); (case ga => assumption))
  | ((with_reducible refine' g_ixL (SqL.of (by walk_at "lk")) ?ga ?_); (case ga => first | exact rfl | assumption))
  | ((with_reducible refine' g_ixT (SqT.of (by walk_at "lk")) ?ga ?_); (case ga => first | exact rfl | assumption))
  | ((with_reducible refine' g_lenT (SqT.of (by walk_at "lk")) ?_))
  | ((with_reducible refine' g_isiS (b := true) ?ga ?_); (case ga => decide +kernel))
  | ((with_reducible refine' g_isiS (b := false) ?ga ?_); (case ga => decide +kernel))
  | ((with_reducible refine' g_isiI (b := true) ?ga ?_); (case ga => decide +kernel))
  | ((with_reducible refine' g_isiI (b := false) ?ga ?_); (case ga => decide +kernel))
  | ((with_reducible refine' g_setL2 ?ga ?gb ?_); (case ga => exact rfl); (case gb => exact rfl))
  | ((with_reducible refine' g_setL (by walk_at "lk") ?ga ?gb ?_); (case ga => exact rfl); (case gb => exact rfl)))
local macro_rules | `(tactic| walk_at "go") => `(tactic| ((repeat walk_at "go1"); try dsimp only [List.set, List.cons_append, List.nil_append]))
def topS (i : Nat) : Stmt := PySem.Challenge.pw_gatesworn_k12_word_operations.main.body.getD i (.Pass ⟨0, 0, 0, 0⟩)
abbrev s_Word___init__ : Stmt := inClass (topS 7) 1
theorem sc_Word___init__ : FnScope ["self", "value", "width"] ["self", "value", "width"] (defScope s_Word___init__) := ⟨rfl, rfl, rfl, by decide +kernel, rfl, by decide +kernel, by decide +kernel⟩
abbrev s_Word___eq__ : Stmt := inClass (topS 7) 2
theorem sc_Word___eq__ : FnScope ["self", "other"] ["self", "other"] (defScope s_Word___eq__) := ⟨rfl, rfl, rfl, by decide +kernel, rfl, by decide +kernel, by decide +kernel⟩
abbrev s_Word___bool__ : Stmt := inClass (topS 7) 3
theorem sc_Word___bool__ : FnScope ["self"] ["self"] (defScope s_Word___bool__) := ⟨rfl, rfl, rfl, by decide +kernel, rfl, by decide +kernel, by decide +kernel⟩
abbrev s_Word__match : Stmt := inClass (topS 7) 4
theorem sc_Word__match : FnScope ["self", "other"] ["self", "other"] (defScope s_Word__match) := ⟨rfl, rfl, rfl, by decide +kernel, rfl, by decide +kernel, by decide +kernel⟩
abbrev s_Word__check_shift : Stmt := inClass (topS 7) 5
theorem sc_Word__check_shift : FnScope ["self", "by"] ["self", "by"] (defScope s_Word__check_shift) := ⟨rfl, rfl, rfl, by decide +kernel, rfl, by decide +kernel, by decide +kernel⟩
abbrev s_Word___add__ : Stmt := inClass (topS 7) 6
theorem sc_Word___add__ : FnScope ["self", "other"] ["self", "other"] (defScope s_Word___add__) := ⟨rfl, rfl, rfl, by decide +kernel, rfl, by decide +kernel, by decide +kernel⟩
abbrev s_Word___sub__ : Stmt := inClass (topS 7) 7
theorem sc_Word___sub__ : FnScope ["self", "other"] ["self", "other"] (defScope s_Word___sub__) := ⟨rfl, rfl, rfl, by decide +kernel, rfl, by decide +kernel, by decide +kernel⟩
abbrev s_Word___and__ : Stmt := inClass (topS 7) 8
theorem sc_Word___and__ : FnScope ["self", "other"] ["self", "other"] (defScope s_Word___and__) := ⟨rfl, rfl, rfl, by decide +kernel, rfl, by decide +kernel, by decide +kernel⟩
abbrev s_Word___or__ : Stmt := inClass (topS 7) 9
theorem sc_Word___or__ : FnScope ["self", "other"] ["self", "other"] (defScope s_Word___or__) := ⟨rfl, rfl, rfl, by decide +kernel, rfl, by decide +kernel, by decide +kernel⟩
abbrev s_Word___xor__ : Stmt := inClass (topS 7) 10
theorem sc_Word___xor__ : FnScope ["self", "other"] ["self", "other"] (defScope s_Word___xor__) := ⟨rfl, rfl, rfl, by decide +kernel, rfl, by decide +kernel, by decide +kernel⟩
abbrev s_Word___neg__ : Stmt := inClass (topS 7) 11
theorem sc_Word___neg__ : FnScope ["self"] ["self"] (defScope s_Word___neg__) := ⟨rfl, rfl, rfl, by decide +kernel, rfl, by decide +kernel, by decide +kernel⟩
abbrev s_Word___invert__ : Stmt := inClass (topS 7) 12
theorem sc_Word___invert__ : FnScope ["self"] ["self"] (defScope s_Word___invert__) := ⟨rfl, rfl, rfl, by decide +kernel, rfl, by decide +kernel, by decide +kernel⟩
abbrev s_Word___lshift__ : Stmt := inClass (topS 7) 13
theorem sc_Word___lshift__ : FnScope ["self", "by"] ["self", "by"] (defScope s_Word___lshift__) := ⟨rfl, rfl, rfl, by decide +kernel, rfl, by decide +kernel, by decide +kernel⟩
abbrev s_Word___rshift__ : Stmt := inClass (topS 7) 14
theorem sc_Word___rshift__ : FnScope ["self", "by"] ["self", "by"] (defScope s_Word___rshift__) := ⟨rfl, rfl, rfl, by decide +kernel, rfl, by decide +kernel, by decide +kernel⟩
abbrev s_Word_below : Stmt := inClass (topS 7) 15
theorem sc_Word_below : FnScope ["self", "other"] ["self", "other"] (defScope s_Word_below) := ⟨rfl, rfl, rfl, by decide +kernel, rfl, by decide +kernel, by decide +kernel⟩
abbrev s_Word_part : Stmt := inClass (topS 7) 16
theorem sc_Word_part : FnScope ["self", "high", "low", "width"] ["self", "high", "low"] (defScope s_Word_part) := ⟨rfl, rfl, rfl, by decide +kernel, rfl, by decide +kernel, by decide +kernel⟩
abbrev s_Word_glue : Stmt := inClass (topS 7) 17
theorem sc_Word_glue : FnScope ["words", "width", "value", "word"] ["words"] (defScope s_Word_glue) := ⟨rfl, rfl, rfl, by decide +kernel, rfl, by decide +kernel, by decide +kernel⟩
abbrev s__law_number : Stmt := topS 9
theorem sc__law_number : FnScope ["script", "place"] ["script", "place"] (defScope s__law_number) := ⟨rfl, rfl, rfl, by decide +kernel, rfl, by decide +kernel, by decide +kernel⟩
abbrev s__law_box : Stmt := topS 10
theorem sc__law_box : FnScope ["script", "place", "cell", "seed"] ["script", "place"] (defScope s__law_box) := ⟨rfl, rfl, rfl, by decide +kernel, rfl, by decide +kernel, by decide +kernel⟩
abbrev s__law_draw : Stmt := topS 11
theorem sc__law_draw : FnScope ["box", "many", "digit", "one", "two"] ["box", "many"] (defScope s__law_draw) := ⟨rfl, rfl, rfl, by decide +kernel, rfl, by decide +kernel, by decide +kernel⟩
abbrev s__law_value : Stmt := topS 12
theorem sc__law_value : FnScope ["box", "width", "top", "way"] ["box", "width"] (defScope s__law_value) := ⟨rfl, rfl, rfl, by decide +kernel, rfl, by decide +kernel, by decide +kernel⟩
abbrev s__law_second : Stmt := topS 13
theorem sc__law_second : FnScope ["box", "a", "width", "top", "way"] ["box", "a", "width"] (defScope s__law_second) := ⟨rfl, rfl, rfl, by decide +kernel, rfl, by decide +kernel, by decide +kernel⟩
abbrev s__law_plain : Stmt := topS 14
theorem sc__law_plain : FnScope ["found", "due"] ["found", "due"] (defScope s__law_plain) := ⟨rfl, rfl, rfl, by decide +kernel, rfl, by decide +kernel, by decide +kernel⟩
abbrev s__law_is_word : Stmt := topS 15
theorem sc__law_is_word : FnScope ["found", "value", "width"] ["found", "value", "width"] (defScope s__law_is_word) := ⟨rfl, rfl, rfl, by decide +kernel, rfl, by decide +kernel, by decide +kernel⟩
abbrev s__law_truth : Stmt := topS 16
theorem sc__law_truth : FnScope ["found", "due"] ["found", "due"] (defScope s__law_truth) := ⟨rfl, rfl, rfl, by decide +kernel, rfl, by decide +kernel, by decide +kernel⟩
abbrev s__law_operators : Stmt := topS 17
theorem sc__law_operators : FnScope ["a", "b", "width", "one", "two", "room"] ["a", "b", "width"] (defScope s__law_operators) := ⟨rfl, rfl, rfl, by decide +kernel, rfl, by decide +kernel, by decide +kernel⟩
abbrev s__law_alone : Stmt := topS 18
theorem sc__law_alone : FnScope ["a", "width", "one"] ["a", "width"] (defScope s__law_alone) := ⟨rfl, rfl, rfl, by decide +kernel, rfl, by decide +kernel, by decide +kernel⟩
abbrev s__law_compared : Stmt := topS 19
theorem sc__law_compared : FnScope ["a", "b", "width", "one", "two", "wide", "nothing", "strange", "other"] ["a", "b", "width"] (defScope s__law_compared) := ⟨rfl, rfl, rfl, by decide +kernel, rfl, by decide +kernel, by decide +kernel⟩
abbrev s__law_moves : Stmt := topS 20
theorem sc__law_moves : FnScope ["a", "width", "one", "k", "high", "low", "wide"] ["a", "width"] (defScope s__law_moves) := ⟨rfl, rfl, rfl, by decide +kernel, rfl, by decide +kernel, by decide +kernel⟩
abbrev s__law_pieces : Stmt := topS 21
theorem sc__law_pieces : FnScope ["width", "cuts", "pieces", "high", "low"] ["width", "cuts"] (defScope s__law_pieces) := ⟨rfl, rfl, rfl, by decide +kernel, rfl, by decide +kernel, by decide +kernel⟩
abbrev s__law_glued : Stmt := topS 22
theorem sc__law_glued : FnScope ["words"] ["words"] (defScope s__law_glued) := ⟨rfl, rfl, rfl, by decide +kernel, rfl, by decide +kernel, by decide +kernel⟩
abbrev s__law_glued_bits : Stmt := topS 23
theorem sc__law_glued_bits : FnScope ["x"] ["x"] (defScope s__law_glued_bits) := ⟨rfl, rfl, rfl, by decide +kernel, rfl, by decide +kernel, by decide +kernel⟩
abbrev s__law_joins : Stmt := topS 24
theorem sc__law_joins : FnScope ["a", "width", "cuts", "one", "rows", "made", "told", "k", "wide", "high", "low"] ["a", "width", "cuts"] (defScope s__law_joins) := ⟨rfl, rfl, rfl, by decide +kernel, rfl, by decide +kernel, by decide +kernel⟩
abbrev s__law_bits_joined : Stmt := topS 25
theorem sc__law_bits_joined : FnScope ["a", "bits", "k"] ["a"] (defScope s__law_bits_joined) := ⟨rfl, rfl, rfl, by decide +kernel, rfl, by decide +kernel, by decide +kernel⟩
abbrev s_law : Stmt := topS 26
theorem sc_law : FnScope ["script", "width", "box", "a", "b", "cuts"] ["script"] (defScope s_law) := ⟨rfl, rfl, rfl, by decide +kernel, rfl, by decide +kernel, by decide +kernel⟩
structure Txt (K : PySem.W.Frag) (mg : Str → Option Value) (dA : Nat → Addr) : Prop where
  b_abs : mg "abs" = none
  b_bool : mg "bool" = none
  b_int : mg "int" = none
  b_isinstance : mg "isinstance" = none
  b_len : mg "len" = none
  b_range : mg "range" = none
  b_str : mg "str" = none
  b_sum : mg "sum" = none
  gx_Word : mg "Word" = some (.ref (dA 200))
  gc_Word : ∃ u, mg "Word" = some u ∧ RelV (V.ref (dA 200)) u
  cl_Word : Cls K (dA 200)
  ic_Word : C8.InsC K (dA 200)
  ek_Word : WOwn.EqK K (dA 200)
  kj_Word : PySem.W.isClsIn K (dA 200) = true
  ky_Word : PySem.W.typeIn K (.ref (dA 200)) = some (.type "type")
  na_Word_value : NoAttr K (dA 200) "value"
  na_Word_width : NoAttr K (dA 200) "width"
  cv_Word_WIDEST : ∃ mc u, ClX.CRead K (dA 200) mc ∧ ClX.CVal K (dA 200) mc "WIDEST" (.int 16) u
  oi_Word_LShift : WOwn.OpI K (dA 200) .LShift
  oi_Word_RShift : WOwn.OpI K (dA 200) .RShift

end K12
set_option Elab.async false
set_option linter.all false
set_option maxRecDepth 100000
set_option maxHeartbeats 4000000
namespace K12
open PySem PySem.Spec PyProof.Rows L2 WL
local macro_rules | `(tactic| walk_at "lk") => `(tactic| first
  | exact upd_same
  | assumption
  | (rw [upd_ne (by assumption)]; first | exact upd_same | assumption | (rw [upd_ne (by assumption)]; first | exact upd_same | assumption | (rw [upd_ne (by assumption)]; first | exact upd_same | assumption))))
local macro_rules | `(tactic| walk_at "go1") => `(tactic| first
  | (with_reducible refine g_seq ?_)
  | (with_reducible refine g_asg ?_)
  | (with_reducible refine g_name ?_)
  | (with_reducible refine g_sub ?_)
  | ((with_reducible refine' g_var ?gv ?_); (case gv => exact rfl))
  | (with_reducible refine g_c ?_)
  | (with_reducible refine g_op ?_)
  | (with_reducible refine g_un ?_)
  | (with_reducible refine g_I0 ?_)
  | ((with_reducible refine g_I ?gc ?_); (case gc => first | assumption | decide | (show (0 : Int) < _; omega) | exact Or.inr ⟨by omega, by omega⟩ | exact Or.inl ⟨by omega, by omega⟩ | exact ⟨by omega, by omega⟩))
  | (with_reducible refine iteT ?_)
  | (with_reducible refine iteF ?_)
  | (with_reducible refine iteNT ?_)
  | (with_reducible refine iteNF ?_)
  | (with_reducible refine g_andV ?_)
  | (with_reducible refine g_orV ?_)
  | ((with_reducible refine' g_lenS (by assumption) ?_))
  | ((with_reducible refine' g_lenS (SqL.of (by walk_at "lk")) ?_))
  | (with_reducible refine g_U ?_)
  | ((with_reducible refine g_eq ?gs ?_); (case gs => rfl))
  | ((with_reducible refine g_ne ?gs ?_); (case gs => rfl))
  | (with_reducible refine g_drop ?_)
  | (with_reducible refine g_ret ?_)
  | (with_reducible refine g_next ?_)
  | (with_reducible refine g_ifS ?_)
  | (with_reducible refine g_ifE ?_)
  | (with_reducible refine g_test ?_)
  | (with_reducible refine g_tb ?_)
  | (with_reducible refine g_bl ?_)
  | (with_reducible refine g_not ?_)
  | (with_reducible refine g_and ?_)
  | (with_reducible refine g_or ?_)
  | (with_reducible refine g_nil ?_)
  | (with_reducible refine g_cons ?_)
  | (with_reducible refine g_cb ?_)
  | (with_reducible refine g_call ?_)
  | (with_reducible refine g_int ?_)
  | (with_reducible refine g_two ?_)
  | ((with_reducible refine g_lenStr ?gz ?_); (case gz => first | assumption | exact sz_le (by omega)))
  | (with_reducible refine g_m1 ?_)
  | (with_reducible refine g_isS ?_)
  | (with_reducible refine g_nn ?_)
  | (with_reducible refine g_yes ?_)
  | (with_reducible refine g_for ?_)
  | (with_reducible refine g_ckw ?_)
  | (with_reducible refine g_chain ?_)
  | (with_reducible refine g_gcons ?_)
  | (with_reducible refine g_gnil ?_)
  | (with_reducible refine g_notV ?_)
  | (with_reducible refine g_iZip ?_)
  | (with_reducible refine g_lc ?_)
  | (with_reducible refine g_lc2 ?_)
  | (with_reducible refine g_iList ?_)
  | (with_reducible refine g_iRng1 ?_)
  | (with_reducible refine g_iRng2 ?_)
  | (with_reducible refine g_sl ?_)
  | (with_reducible refine g_noPart ?_)
  | (with_reducible refine g_part ?_)
  | (with_reducible refine g_ex1 ?_)
  | (with_reducible refine g_bm ?_)
  | ((with_reducible refine' g_tyL (by walk_at "lk") ?_))
  | ((with_reducible refine' g_aug ?gv ?_); (case gv => exact rfl))
  | (with_reducible refine g_ipI ?_)
  | (with_reducible refine g_turn ?_)
  | (with_reducible refine g_brk ?_)
  | (with_reducible refine g_cont ?_)
  | (with_reducible refine g_sign ?_)
  | (with_reducible refine g_lst ?_)
  | (with_reducible refine g_tup ?_)
  | ((with_reducible refine' g_ixL (by assumption) ?ga ?_); (case ga => assumption))
  | ((with_reducible refine' g_ixL (SqL.of (by walk_at "lk")) ?ga ?_); (case ga => first | exact rfl | assumption))
  | ((with_reducible refine' g_ixT (SqT.of (by walk_at "lk")) ?ga ?_); (case ga => first | exact rfl | assumption))
  | ((with_reducible refine' g_lenT (SqT.of (by walk_at "lk")) ?_))
  | ((with_reducible refine' g_isiS (b := true) ?ga ?_); (case ga => decide +kernel))
  | ((with_reducible refine' g_isiS (b := false) ?ga ?_); (case ga => decide +kernel))
  | ((with_reducible refine' g_isiI (b := true) ?ga ?_); (case ga => decide +kernel))
  | ((with_reducible refine' g_isiI (b := false) ?ga ?_); (case ga => decide +kernel))
  | ((with_reducible refine' g_setL2 ?ga ?gb ?_); (case ga => exact rfl); (case gb => exact rfl))
  | ((with_reducible refine' g_setL (by walk_at "lk") ?ga ?gb ?_); (case ga => exact rfl); (case gb => exact rfl)))
local macro_rules | `(tactic| walk_at "go") => `(tactic| ((repeat walk_at "go1"); try dsimp only [List.set, List.cons_append, List.nil_append]))
local macro_rules | `(tactic| walk_at "go1") => `(tactic| first
  | (with_reducible refine WOwn.g_fl ?_)
  | (with_reducible refine WOwn.g_sfl ?_)
  | (with_reducible refine WOwn.g_make ?_)
  | (with_reducible refine WOwn.g_meth ?_)
  | (with_reducible refine WOwn.g_sm ?_)
  | (with_reducible refine WOwn.g_cv ?_))
structure Wd (v w : Int) : Prop where
  a : 1 ≤ w
  b : w ≤ 16
  c : 0 ≤ v
  d : v < 2 ^ w.toNat
def fsW (v w : Int) : List (Str × V) := [("value", .int v), ("width", .int w)]
def WA (C : Addr) (H : Hp) (a : Addr) (v w : Int) : Prop := ∃ dx, H a = some (.ins C dx [("value", .int v), ("width", .int w)])
theorem WA.same {C a : Addr} {H H' : Hp} {v w : Int} (s : Same H H') (h : WA C H a v w) : WA C H' a v w := let ⟨dx, e⟩ := h; ⟨dx, s _ _ e⟩
theorem WA.ins {C a : Addr} {H : Hp} {v w : Int} (h : WA C H a v w) : WOwn.Ins C H a := let ⟨dx, e⟩ := h; ⟨dx, _, e⟩
def spNew (C : Addr) : Sp := fun vs H Q _ => ∃ (x dx : Addr) (v w : Int), vs = [.ref x, .int v, .int w] ∧ Wd v w ∧ H x = some (.ins C dx []) ∧ Q .non (upd H x (.ins C dx [("value", .int v), ("width", .int w)]))
theorem g_newW {C : Addr} {v w : Int} {H : Hp} {Q : VK} {E : XK} (hw : Wd v w) (q : ∀ x H', H x = none → Same H H' → WA C H' x v w → Q (.ref x) H') :
    ∀ x dx, H x = none → H dx = none → dx ≠ x → spNew C (.ref x :: ([.int v, .int w] ++ [])) (upd (upd H dx (.own x)) x (.ins C dx [])) (fun u H2 => u = .non ∧ Q (.ref x) H2) E :=
  fun x dx nx nd hne => ⟨x, dx, v, w, rfl, hw, upd_same, rfl, q x _ nx (fun b o hb => by
    have h1 : b ≠ x := ne_of_none hb nx
    have h2 : b ≠ dx := ne_of_none hb nd
    rw [upd_ne h1, upd_ne h1, upd_ne h2]; exact hb) ⟨dx, upd_same⟩⟩
/-! the operations -/
def fAdd (a b w : Int) : Int := (a + b) % (1 * 2 ^ w.toNat)
def fSub (a b w : Int) : Int := (a - b) % (1 * 2 ^ w.toNat)
def fAnd (a b _w : Int) : Int := Builtin.bitAnd a b
def fOr (a b _w : Int) : Int := Builtin.bitOr a b
def fXor (a b _w : Int) : Int := Builtin.bitXor a b
def fNeg (a w : Int) : Int := (0 - a) % (1 * 2 ^ w.toNat)
def fInv (a w : Int) : Int := 1 * 2 ^ w.toNat - 1 - a
def fShl (a k w : Int) : Int := (a * 2 ^ k.toNat) % (1 * 2 ^ w.toNat)
def fShr (a k _w : Int) : Int := a / 2 ^ k.toNat
def spBin (C : Addr) (f : Int → Int → Int → Int) : Sp := fun vs H Q _ => ∃ (a b : Addr) (x y w : Int), vs = [.ref a, .ref b] ∧ Wd x w ∧ Wd y w ∧ WA C H a x w ∧ WA C H b y w ∧ ∀ r H', H r = none → Same H H' → WA C H' r (f x y w) w → Q (.ref r) H'
def spUn (C : Addr) (f : Int → Int → Int) : Sp := fun vs H Q _ => ∃ (a : Addr) (x w : Int), vs = [.ref a] ∧ Wd x w ∧ WA C H a x w ∧ ∀ r H', H r = none → Same H H' → WA C H' r (f x w) w → Q (.ref r) H'
def spSh (C : Addr) (f : Int → Int → Int → Int) : Sp := fun vs H Q _ => ∃ (a : Addr) (x k w : Int), vs = [.ref a, .int k] ∧ Wd x w ∧ 0 ≤ k ∧ k ≤ 16 ∧ WA C H a x w ∧ ∀ r H', H r = none → Same H H' → WA C H' r (f x k w) w → Q (.ref r) H'
def spMatch (C : Addr) : Sp := fun vs H Q _ => ∃ (a b : Addr) (x y w : Int), vs = [.ref a, .ref b] ∧ WA C H a x w ∧ WA C H b y w ∧ Q .non H
def spChk (C : Addr) : Sp := fun vs H Q _ => ∃ (a : Addr) (k : Int), vs = [.ref a, .int k] ∧ 0 ≤ k ∧ k ≤ 16 ∧ Q .non H
def spBelow (C : Addr) : Sp := fun vs H Q _ => ∃ (a b : Addr) (x y w : Int), vs = [.ref a, .ref b] ∧ WA C H a x w ∧ WA C H b y w ∧ Q (.bl (decide (x < y))) H
def spBoolW (C : Addr) : Sp := fun vs H Q _ => ∃ (a : Addr) (x w : Int), vs = [.ref a] ∧ WA C H a x w ∧ Q (.bl (x != 0)) H
def spPart (C : Addr) : Sp := fun vs H Q _ => ∃ (a : Addr) (x w h l : Int), vs = [.ref a, .int h, .int l] ∧ Wd x w ∧ 0 ≤ l ∧ l ≤ h ∧ h < w ∧ WA C H a x w ∧ ∀ r H', H r = none → Same H H' → WA C H' r (x / 2 ^ l.toNat % (1 * 2 ^ (h - l + 1).toNat)) (h - l + 1) → Q (.ref r) H'
def spEqW (C : Addr) : Sp := fun vs H Q _ => ∃ (a : Addr) (x w : Int) (o : V), vs = [.ref a, o] ∧ WA C H a x w ∧ ((∃ b y u, o = .ref b ∧ WA C H b y u ∧ Q (.bl (decide (x = y) && decide (w = u))) H) ∨ ∃ T, WOwn.Oth H o T ∧ Q (.bl false) H)
/-! bounds -/
theorem two_pos (n : Nat) : (0 : Int) < 2 ^ n := Int.pow_pos (by decide)
theorem mod_wd {z w : Int} (h1 : 1 ≤ w) (h2 : w ≤ 16) : Wd (z % (1 * 2 ^ w.toNat)) w := by
  have hp := two_pos w.toNat
  refine ⟨h1, h2, ?_, ?_⟩
  · rw [Int.one_mul]; exact Int.emod_nonneg _ (by omega)
  · rw [Int.one_mul]; exact Int.emod_lt_of_pos _ hp
theorem nat_of {z : Int} (h : 0 ≤ z) : ∃ n : Nat, z = n := ⟨z.toNat, by omega⟩
theorem pow_nat (n : Nat) : (2 : Int) ^ n = ((2 ^ n : Nat) : Int) := by simp
theorem inv_wd {x w : Int} (h : Wd x w) : Wd (fInv x w) w := by
  have h3 := h.c
  have h4 := h.d
  have hp := two_pos w.toNat
  refine ⟨h.a, h.b, ?_, ?_⟩ <;> unfold fInv <;> rw [Int.one_mul] <;> omega
theorem shr_wd {x w k : Int} (h : Wd x w) : Wd (fShr x k w) w := by
  have h3 := h.c
  have h4 := h.d
  have hp := two_pos k.toNat
  unfold fShr
  refine ⟨h.a, h.b, Int.ediv_nonneg h3 (by omega), ?_⟩
  exact Int.lt_of_le_of_lt (Int.ediv_le_self _ h3) h4
theorem and_wd {x y w : Int} (h : Wd x w) (h' : Wd y w) : Wd (fAnd x y w) w := by
  have h4 := h.d
  have h3 := h.c
  rw [pow_nat] at h4
  unfold fAnd
  rw [bitAnd_pp h.c h'.c]
  have : x.toNat &&& y.toNat < 2 ^ w.toNat := Nat.lt_of_le_of_lt Nat.and_le_left (by omega)
  exact ⟨h.a, h.b, by omega, by rw [pow_nat]; omega⟩
theorem or_wd {x y w : Int} (h : Wd x w) (h' : Wd y w) : Wd (fOr x y w) w := by
  have h4 := h.d
  have h3 := h.c
  have h5 := h'.d
  have h6 := h'.c
  rw [pow_nat] at h4 h5
  unfold fOr
  rw [Bits.bitOr_pp h.c h'.c]
  have : x.toNat ||| y.toNat < 2 ^ w.toNat := Nat.or_lt_two_pow (by omega) (by omega)
  exact ⟨h.a, h.b, by omega, by rw [pow_nat]; omega⟩
theorem xor_wd {x y w : Int} (h : Wd x w) (h' : Wd y w) : Wd (fXor x y w) w := by
  have h4 := h.d
  have h3 := h.c
  have h5 := h'.d
  have h6 := h'.c
  rw [pow_nat] at h4 h5
  unfold fXor
  rw [Bits.bitXor_pp h.c h'.c]
  have : x.toNat ^^^ y.toNat < 2 ^ w.toNat := Nat.xor_lt_two_pow (by omega) (by omega)
  exact ⟨h.a, h.b, by omega, by rw [pow_nat]; omega⟩
theorem pow_le16 {w : Int} (h : w ≤ 16) : (2 : Int) ^ w.toNat ≤ 65536 := by
  have : (2 : Nat) ^ w.toNat ≤ 2 ^ 16 := Nat.pow_le_pow_right (by decide) (by omega)
  rw [pow_nat]
  omega
theorem wd_small {x w : Int} (h : Wd x w) : x < 65536 := Int.lt_of_lt_of_le h.d (pow_le16 h.b)
theorem shl1 {w : Int} (h0 : 0 ≤ w) (h1 : w ≤ 16) : CPow 1 w := ⟨h0, by omega, by decide⟩
theorem shlx {x w k : Int} (h : Wd x w) (h0 : 0 ≤ k) (h1 : k ≤ 16) : CPow x k := ⟨h0, by omega, by have := wd_small h; have := h.c; omega⟩
theorem pos1 (w : Int) : (0 : Int) < 1 * 2 ^ w.toNat := by rw [Int.one_mul]; exact two_pos _
variable {P : Program} {w : World} {K : PySem.W.Frag} {mg : Str → Option Value} {base : Heap} {dA : Nat → Addr}
local macro_rules | `(tactic| walk_at "no") => `(tactic| (refine g_ite (fun e => absurd e (by omega)) (fun _ => ?_); walk_at "go"))
theorem ok_Word___init__ (T : Txt K mg dA)  {f : Addr} {fd : FuncData} (F : Fun K "__init__" "Word.__init__" s_Word___init__ f fd) : FnOk P w K mg base CX0 1 f fd ["self", "value", "width"] (spNew (dA 200)) := by
  refine F.ok sc_Word___init__ (fun vs H Q E h => ?_) (fun cdv A outer s H vs Q E hr h => ?_)
  · obtain ⟨x, dx, v, w, rfl, _⟩ := h
    rfl
  obtain ⟨x, dx, v, w, rfl, hw, hx, q⟩ := h
  refine ⟨_, (pss_cons (ps_if (PW.pt (pw_or (pt_cmpR op_lt (pv 2) pe_int (nomark _)) (pw_or (pt_cmpR op_gt (pv 2) (WOwn.kpe_cval K (C8.pe_gc (by rfl) T.gc_Word)) (nomark _)) (pw_or (pt_cmpR op_lt (pv 1) pe_int (nomark _)) (pw_or1 (pt_cmpR op_ge (pv 1) (pe_op op_shl pe_int (pv 2)) (nomark _))))))) pss_never pss_nil)
      (pss_cons (WOwn.ps_fl T.cl_Word T.na_Word_value (pv 0) (pv 1))
      (pss_one (WOwn.ps_fl T.cl_Word T.na_Word_width (pv 0) (pv 2))))), ?_⟩
  rw [show (L2.start ["self", "value", "width"] [.ref x, .int v, .int w] : L2.St) = [some (.ref x), some (.int v), some (.int w)] from rfl]
  try simp only [WL.cxK]
  have h1 := hw.a
  have h2 := hw.b
  have h3 := hw.c
  have h4 := hw.d
  walk_at "go"
  walk_at "no"
  refine WOwn.cvR T.cv_Word_WIDEST ?_
  walk_at "go"
  walk_at "no"
  walk_at "no"
  refine g_ite (fun e => absurd e (by rw [Int.one_mul]; omega)) (fun _ => ?_)
  walk_at "go"
  refine WOwn.g_sflR hx (by exact (by decide : (0 : Nat) < 1000)) ?_
  walk_at "go"
  refine WOwn.g_sflR upd_same (by exact (by decide : (1 : Nat) < 1000)) ?_
  walk_at "go"
  rw [upd_upd]
  exact q
theorem ok_Word___bool__ (T : Txt K mg dA)  {f : Addr} {fd : FuncData} (F : Fun K "__bool__" "Word.__bool__" s_Word___bool__ f fd) : FnOk P w K mg base CX0 1 f fd ["self"] (spBoolW (dA 200)) := by
  refine F.ok sc_Word___bool__ (fun vs H Q E h => ?_) (fun cdv A outer s H vs Q E hr h => ?_)
  · obtain ⟨a, x, w, rfl, _⟩ := h
    rfl
  obtain ⟨a, x, w, rfl, ⟨dx, hA⟩, q⟩ := h
  refine ⟨_, (pss_one (ps_ret (pe_callTy call_bool1 (by rfl) T.b_bool (by decide +kernel) (pa_cons (WOwn.pe_fl T.cl_Word T.na_Word_value (pv 0)) pa_nil)))), ?_⟩
  rw [show (L2.start ["self"] [.ref a] : L2.St) = [some (.ref a)] from rfl]
  try simp only [WL.cxK]
  walk_at "go"
  refine WOwn.g_flR hA rfl ?_
  walk_at "go"
  exact q
theorem ok_Word__match (T : Txt K mg dA)  {f : Addr} {fd : FuncData} (F : Fun K "_match" "Word._match" s_Word__match f fd) : FnOk P w K mg base CX0 1 f fd ["self", "other"] (spMatch (dA 200)) := by
  refine F.ok sc_Word__match (fun vs H Q E h => ?_) (fun cdv A outer s H vs Q E hr h => ?_)
  · obtain ⟨a, b, x, y, w, rfl, _⟩ := h
    rfl
  obtain ⟨a, b, x, y, w, rfl, ⟨dx, hA⟩, ⟨dy, hB⟩, q⟩ := h
  refine ⟨_, (pss_one (ps_if (pt_cmpR op_ne (WOwn.pe_fl T.cl_Word T.na_Word_width (pv 0)) (WOwn.pe_fl T.cl_Word T.na_Word_width (pv 1)) (nomark _)) pss_never pss_nil)), ?_⟩
  rw [show (L2.start ["self", "other"] [.ref a, .ref b] : L2.St) = [some (.ref a), some (.ref b)] from rfl]
  try simp only [WL.cxK]
  walk_at "go"
  refine WOwn.g_flR hA rfl ?_
  walk_at "go"
  refine WOwn.g_flR hB rfl ?_
  walk_at "go"
  refine g_iteNI (fun e => absurd rfl e) (fun _ => ?_)
  walk_at "go"
  exact q
theorem ok_Word__check_shift (T : Txt K mg dA)  {f : Addr} {fd : FuncData} (F : Fun K "_check_shift" "Word._check_shift" s_Word__check_shift f fd) : FnOk P w K mg base CX0 1 f fd ["self", "by"] (spChk (dA 200)) := by
  refine F.ok sc_Word__check_shift (fun vs H Q E h => ?_) (fun cdv A outer s H vs Q E hr h => ?_)
  · obtain ⟨a, k, rfl, _⟩ := h
    rfl
  obtain ⟨a, k, rfl, h0, h1, q⟩ := h
  refine ⟨_, (pss_one (ps_if (PW.pt (pw_or (pt_cmpR op_lt (pv 1) pe_int (nomark _)) (pw_or1 (pt_cmpR op_gt (pv 1) (WOwn.kpe_cval K (C8.pe_gc (by rfl) T.gc_Word)) (nomark _))))) pss_never pss_nil)), ?_⟩
  rw [show (L2.start ["self", "by"] [.ref a, .int k] : L2.St) = [some (.ref a), some (.int k)] from rfl]
  try simp only [WL.cxK]
  walk_at "go"
  walk_at "no"
  refine WOwn.cvR T.cv_Word_WIDEST ?_
  walk_at "go"
  walk_at "no"
  exact q
theorem ok_Word___eq__ (T : Txt K mg dA)  {f : Addr} {fd : FuncData} (F : Fun K "__eq__" "Word.__eq__" s_Word___eq__ f fd) : FnOk P w K mg base CX0 1 f fd ["self", "other"] (spEqW (dA 200)) := by
  refine F.ok sc_Word___eq__ (fun vs H Q E h => ?_) (fun cdv A outer s H vs Q E hr h => ?_)
  · obtain ⟨a, x, w, o, rfl, _⟩ := h
    rfl
  obtain ⟨a, x, w, o, rfl, ⟨dx, hA⟩, q⟩ := h
  refine ⟨_, (pss_one (ps_ret (pe_and (pe_callB (kcall_isi K) (by rfl) T.b_isinstance (by decide +kernel) (pa_cons (pv 1) (pa_cons (C8.pe_gc (by rfl) T.gc_Word) pa_nil))) (pe_and (pe_cmpR op_eq (WOwn.pe_fl T.cl_Word T.na_Word_value (pv 0)) (WOwn.pe_fl T.cl_Word T.na_Word_value (pv 1)) (nomark _)) (pe_one (pe_cmpR op_eq (WOwn.pe_fl T.cl_Word T.na_Word_width (pv 0)) (WOwn.pe_fl T.cl_Word T.na_Word_width (pv 1)) (nomark _))))))), ?_⟩
  rw [show (L2.start ["self", "other"] [.ref a, o] : L2.St) = [some (.ref a), some (o)] from rfl]
  try simp only [WL.cxK]
  walk_at "go"
  rcases q with ⟨b, y, u, rfl, ⟨dy, hB⟩, q⟩ | ⟨U, ho, q⟩
  · refine WOwn.g_isC T.ic_Word hB ?_
    walk_at "go"
    refine WOwn.g_flR hA rfl ?_
    walk_at "go"
    refine WOwn.g_flR hB rfl ?_
    walk_at "go"
    refine g_iteI (fun e => ?_) (fun e => ?_)
    · walk_at "go"
      refine WOwn.g_flR hA rfl ?_
      walk_at "go"
      refine WOwn.g_flR hB rfl ?_
      walk_at "go"
      rw [decide_eq_true e, Bool.true_and] at q
      simpa using q
    · rw [decide_eq_false e, Bool.false_and] at q
      exact q
  · refine WOwn.g_isO T.ek_Word T.kj_Word T.ky_Word ho ?_
    walk_at "go"
    exact q
theorem ok_Word___add__ (T : Txt K mg dA) (c_Word__match : C8.Met P w K mg base 1 (dA 200) "_match" (spMatch (dA 200)) []) (m_Word : C8.Mak P w K mg base 1 "Word" (dA 200) (spNew (dA 200)) []) {f : Addr} {fd : FuncData} (F : Fun K "__add__" "Word.__add__" s_Word___add__ f fd) : FnOk P w K mg base CX0 3 f fd ["self", "other"] (spBin (dA 200) fAdd) := by
  refine F.ok sc_Word___add__ (fun vs H Q E h => ?_) (fun cdv A outer s H vs Q E hr h => ?_)
  · obtain ⟨a, b, x, y, w, rfl, _⟩ := h
    rfl
  obtain ⟨a, b, x, y, w, rfl, hx, hy, ⟨dx, hA⟩, ⟨dy, hB⟩, q⟩ := h
  refine ⟨_, (pss_cons (ps_expr (C8.pe_mt c_Word__match hr (by decide) (pv 0) (pa_cons (pv 1) pa_nil)))
      (pss_one (ps_ret (C8.pe_mk m_Word hr (by decide) (by rfl) (pa_cons (pe_op op_mod (pe_op op_add (WOwn.pe_fl T.cl_Word T.na_Word_value (pv 0)) (WOwn.pe_fl T.cl_Word T.na_Word_value (pv 1))) (pe_op op_shl pe_int (WOwn.pe_fl T.cl_Word T.na_Word_width (pv 0)))) (pa_cons (WOwn.pe_fl T.cl_Word T.na_Word_width (pv 0)) pa_nil)))))), ?_⟩
  rw [show (L2.start ["self", "other"] [.ref a, .ref b] : L2.St) = [some (.ref a), some (.ref b)] from rfl]
  try simp only [WL.cxK]
  walk_at "go"
  refine WOwn.g_methR hA rfl ?_
  walk_at "go"
  refine ⟨a, b, x, y, w, rfl, ⟨dx, hA⟩, ⟨dy, hB⟩, ?_⟩
  walk_at "go"
  refine WOwn.g_flR hA rfl ?_
  walk_at "go"
  refine WOwn.g_flR hB rfl ?_
  walk_at "go"
  refine WOwn.g_flR hA rfl ?_
  walk_at "go"
  have := hx.a
  refine g_I (shl1 (by omega) hx.b) ?_
  walk_at "go"
  refine g_I (pos1 _) ?_
  walk_at "go"
  refine WOwn.g_flR hA rfl ?_
  walk_at "go"
  refine g_newW (mod_wd hx.a hx.b) q
theorem ok_Word___sub__ (T : Txt K mg dA) (c_Word__match : C8.Met P w K mg base 1 (dA 200) "_match" (spMatch (dA 200)) []) (m_Word : C8.Mak P w K mg base 1 "Word" (dA 200) (spNew (dA 200)) []) {f : Addr} {fd : FuncData} (F : Fun K "__sub__" "Word.__sub__" s_Word___sub__ f fd) : FnOk P w K mg base CX0 3 f fd ["self", "other"] (spBin (dA 200) fSub) := by
  refine F.ok sc_Word___sub__ (fun vs H Q E h => ?_) (fun cdv A outer s H vs Q E hr h => ?_)
  · obtain ⟨a, b, x, y, w, rfl, _⟩ := h
    rfl
  obtain ⟨a, b, x, y, w, rfl, hx, hy, ⟨dx, hA⟩, ⟨dy, hB⟩, q⟩ := h
  refine ⟨_, (pss_cons (ps_expr (C8.pe_mt c_Word__match hr (by decide) (pv 0) (pa_cons (pv 1) pa_nil)))
      (pss_one (ps_ret (C8.pe_mk m_Word hr (by decide) (by rfl) (pa_cons (pe_op op_mod (pe_op op_sub (WOwn.pe_fl T.cl_Word T.na_Word_value (pv 0)) (WOwn.pe_fl T.cl_Word T.na_Word_value (pv 1))) (pe_op op_shl pe_int (WOwn.pe_fl T.cl_Word T.na_Word_width (pv 0)))) (pa_cons (WOwn.pe_fl T.cl_Word T.na_Word_width (pv 0)) pa_nil)))))), ?_⟩
  rw [show (L2.start ["self", "other"] [.ref a, .ref b] : L2.St) = [some (.ref a), some (.ref b)] from rfl]
  try simp only [WL.cxK]
  walk_at "go"
  refine WOwn.g_methR hA rfl ?_
  walk_at "go"
  refine ⟨a, b, x, y, w, rfl, ⟨dx, hA⟩, ⟨dy, hB⟩, ?_⟩
  walk_at "go"
  refine WOwn.g_flR hA rfl ?_
  walk_at "go"
  refine WOwn.g_flR hB rfl ?_
  walk_at "go"
  refine WOwn.g_flR hA rfl ?_
  walk_at "go"
  have := hx.a
  refine g_I (shl1 (by omega) hx.b) ?_
  walk_at "go"
  refine g_I (pos1 _) ?_
  walk_at "go"
  refine WOwn.g_flR hA rfl ?_
  walk_at "go"
  refine g_newW (mod_wd hx.a hx.b) q
theorem ok_Word___and__ (T : Txt K mg dA) (c_Word__match : C8.Met P w K mg base 1 (dA 200) "_match" (spMatch (dA 200)) []) (m_Word : C8.Mak P w K mg base 1 "Word" (dA 200) (spNew (dA 200)) []) {f : Addr} {fd : FuncData} (F : Fun K "__and__" "Word.__and__" s_Word___and__ f fd) : FnOk P w K mg base CX0 3 f fd ["self", "other"] (spBin (dA 200) fAnd) := by
  refine F.ok sc_Word___and__ (fun vs H Q E h => ?_) (fun cdv A outer s H vs Q E hr h => ?_)
  · obtain ⟨a, b, x, y, w, rfl, _⟩ := h
    rfl
  obtain ⟨a, b, x, y, w, rfl, hx, hy, ⟨dx, hA⟩, ⟨dy, hB⟩, q⟩ := h
  refine ⟨_, (pss_cons (ps_expr (C8.pe_mt c_Word__match hr (by decide) (pv 0) (pa_cons (pv 1) pa_nil)))
      (pss_one (ps_ret (C8.pe_mk m_Word hr (by decide) (by rfl) (pa_cons (pe_op op_and (WOwn.pe_fl T.cl_Word T.na_Word_value (pv 0)) (WOwn.pe_fl T.cl_Word T.na_Word_value (pv 1))) (pa_cons (WOwn.pe_fl T.cl_Word T.na_Word_width (pv 0)) pa_nil)))))), ?_⟩
  rw [show (L2.start ["self", "other"] [.ref a, .ref b] : L2.St) = [some (.ref a), some (.ref b)] from rfl]
  try simp only [WL.cxK]
  walk_at "go"
  refine WOwn.g_methR hA rfl ?_
  walk_at "go"
  refine ⟨a, b, x, y, w, rfl, ⟨dx, hA⟩, ⟨dy, hB⟩, ?_⟩
  walk_at "go"
  refine WOwn.g_flR hA rfl ?_
  walk_at "go"
  refine WOwn.g_flR hB rfl ?_
  walk_at "go"
  refine WOwn.g_flR hA rfl ?_
  walk_at "go"
  refine g_newW (and_wd hx hy) q
theorem ok_Word___or__ (T : Txt K mg dA) (c_Word__match : C8.Met P w K mg base 1 (dA 200) "_match" (spMatch (dA 200)) []) (m_Word : C8.Mak P w K mg base 1 "Word" (dA 200) (spNew (dA 200)) []) {f : Addr} {fd : FuncData} (F : Fun K "__or__" "Word.__or__" s_Word___or__ f fd) : FnOk P w K mg base CX0 3 f fd ["self", "other"] (spBin (dA 200) fOr) := by
  refine F.ok sc_Word___or__ (fun vs H Q E h => ?_) (fun cdv A outer s H vs Q E hr h => ?_)
  · obtain ⟨a, b, x, y, w, rfl, _⟩ := h
    rfl
  obtain ⟨a, b, x, y, w, rfl, hx, hy, ⟨dx, hA⟩, ⟨dy, hB⟩, q⟩ := h
  refine ⟨_, (pss_cons (ps_expr (C8.pe_mt c_Word__match hr (by decide) (pv 0) (pa_cons (pv 1) pa_nil)))
      (pss_one (ps_ret (C8.pe_mk m_Word hr (by decide) (by rfl) (pa_cons (pe_op op_or (WOwn.pe_fl T.cl_Word T.na_Word_value (pv 0)) (WOwn.pe_fl T.cl_Word T.na_Word_value (pv 1))) (pa_cons (WOwn.pe_fl T.cl_Word T.na_Word_width (pv 0)) pa_nil)))))), ?_⟩
  rw [show (L2.start ["self", "other"] [.ref a, .ref b] : L2.St) = [some (.ref a), some (.ref b)] from rfl]
  try simp only [WL.cxK]
  walk_at "go"
  refine WOwn.g_methR hA rfl ?_
  walk_at "go"
  refine ⟨a, b, x, y, w, rfl, ⟨dx, hA⟩, ⟨dy, hB⟩, ?_⟩
  walk_at "go"
  refine WOwn.g_flR hA rfl ?_
  walk_at "go"
  refine WOwn.g_flR hB rfl ?_
  walk_at "go"
  refine WOwn.g_flR hA rfl ?_
  walk_at "go"
  refine g_newW (or_wd hx hy) q
theorem ok_Word___xor__ (T : Txt K mg dA) (c_Word__match : C8.Met P w K mg base 1 (dA 200) "_match" (spMatch (dA 200)) []) (m_Word : C8.Mak P w K mg base 1 "Word" (dA 200) (spNew (dA 200)) []) {f : Addr} {fd : FuncData} (F : Fun K "__xor__" "Word.__xor__" s_Word___xor__ f fd) : FnOk P w K mg base CX0 3 f fd ["self", "other"] (spBin (dA 200) fXor) := by
  refine F.ok sc_Word___xor__ (fun vs H Q E h => ?_) (fun cdv A outer s H vs Q E hr h => ?_)
  · obtain ⟨a, b, x, y, w, rfl, _⟩ := h
    rfl
  obtain ⟨a, b, x, y, w, rfl, hx, hy, ⟨dx, hA⟩, ⟨dy, hB⟩, q⟩ := h
  refine ⟨_, (pss_cons (ps_expr (C8.pe_mt c_Word__match hr (by decide) (pv 0) (pa_cons (pv 1) pa_nil)))
      (pss_one (ps_ret (C8.pe_mk m_Word hr (by decide) (by rfl) (pa_cons (pe_op op_xor (WOwn.pe_fl T.cl_Word T.na_Word_value (pv 0)) (WOwn.pe_fl T.cl_Word T.na_Word_value (pv 1))) (pa_cons (WOwn.pe_fl T.cl_Word T.na_Word_width (pv 0)) pa_nil)))))), ?_⟩
  rw [show (L2.start ["self", "other"] [.ref a, .ref b] : L2.St) = [some (.ref a), some (.ref b)] from rfl]
  try simp only [WL.cxK]
  walk_at "go"
  refine WOwn.g_methR hA rfl ?_
  walk_at "go"
  refine ⟨a, b, x, y, w, rfl, ⟨dx, hA⟩, ⟨dy, hB⟩, ?_⟩
  walk_at "go"
  refine WOwn.g_flR hA rfl ?_
  walk_at "go"
  refine WOwn.g_flR hB rfl ?_
  walk_at "go"
  refine WOwn.g_flR hA rfl ?_
  walk_at "go"
  refine g_newW (xor_wd hx hy) q
theorem ok_Word___neg__ (T : Txt K mg dA) (m_Word : C8.Mak P w K mg base 1 "Word" (dA 200) (spNew (dA 200)) []) {f : Addr} {fd : FuncData} (F : Fun K "__neg__" "Word.__neg__" s_Word___neg__ f fd) : FnOk P w K mg base CX0 3 f fd ["self"] (spUn (dA 200) fNeg) := by
  refine F.ok sc_Word___neg__ (fun vs H Q E h => ?_) (fun cdv A outer s H vs Q E hr h => ?_)
  · obtain ⟨a, x, w, rfl, _⟩ := h
    rfl
  obtain ⟨a, x, w, rfl, hx, ⟨dx, hA⟩, q⟩ := h
  refine ⟨_, (pss_one (ps_ret (C8.pe_mk m_Word hr (by decide) (by rfl) (pa_cons (pe_op op_mod (pe_op op_sub pe_int (WOwn.pe_fl T.cl_Word T.na_Word_value (pv 0))) (pe_op op_shl pe_int (WOwn.pe_fl T.cl_Word T.na_Word_width (pv 0)))) (pa_cons (WOwn.pe_fl T.cl_Word T.na_Word_width (pv 0)) pa_nil))))), ?_⟩
  rw [show (L2.start ["self"] [.ref a] : L2.St) = [some (.ref a)] from rfl]
  try simp only [WL.cxK]
  walk_at "go"
  refine WOwn.g_flR hA rfl ?_
  walk_at "go"
  refine WOwn.g_flR hA rfl ?_
  walk_at "go"
  have := hx.a
  refine g_I (shl1 (by omega) hx.b) ?_
  walk_at "go"
  refine g_I (pos1 _) ?_
  walk_at "go"
  refine WOwn.g_flR hA rfl ?_
  walk_at "go"
  refine g_newW (mod_wd hx.a hx.b) q
theorem ok_Word___invert__ (T : Txt K mg dA) (m_Word : C8.Mak P w K mg base 1 "Word" (dA 200) (spNew (dA 200)) []) {f : Addr} {fd : FuncData} (F : Fun K "__invert__" "Word.__invert__" s_Word___invert__ f fd) : FnOk P w K mg base CX0 3 f fd ["self"] (spUn (dA 200) fInv) := by
  refine F.ok sc_Word___invert__ (fun vs H Q E h => ?_) (fun cdv A outer s H vs Q E hr h => ?_)
  · obtain ⟨a, x, w, rfl, _⟩ := h
    rfl
  obtain ⟨a, x, w, rfl, hx, ⟨dx, hA⟩, q⟩ := h
  refine ⟨_, (pss_one (ps_ret (C8.pe_mk m_Word hr (by decide) (by rfl) (pa_cons (pe_op op_sub (pe_op op_sub (pe_op op_shl pe_int (WOwn.pe_fl T.cl_Word T.na_Word_width (pv 0))) pe_int) (WOwn.pe_fl T.cl_Word T.na_Word_value (pv 0))) (pa_cons (WOwn.pe_fl T.cl_Word T.na_Word_width (pv 0)) pa_nil))))), ?_⟩
  rw [show (L2.start ["self"] [.ref a] : L2.St) = [some (.ref a)] from rfl]
  try simp only [WL.cxK]
  walk_at "go"
  refine WOwn.g_flR hA rfl ?_
  walk_at "go"
  have := hx.a
  refine g_I (shl1 (by omega) hx.b) ?_
  walk_at "go"
  refine WOwn.g_flR hA rfl ?_
  walk_at "go"
  refine WOwn.g_flR hA rfl ?_
  walk_at "go"
  refine g_newW (inv_wd hx) q
theorem ok_Word___lshift__ (T : Txt K mg dA) (c_Word__check_shift : C8.Met P w K mg base 1 (dA 200) "_check_shift" (spChk (dA 200)) []) (m_Word : C8.Mak P w K mg base 1 "Word" (dA 200) (spNew (dA 200)) []) {f : Addr} {fd : FuncData} (F : Fun K "__lshift__" "Word.__lshift__" s_Word___lshift__ f fd) : FnOk P w K mg base CX0 3 f fd ["self", "by"] (spSh (dA 200) fShl) := by
  refine F.ok sc_Word___lshift__ (fun vs H Q E h => ?_) (fun cdv A outer s H vs Q E hr h => ?_)
  · obtain ⟨a, x, k, w, rfl, _⟩ := h
    rfl
  obtain ⟨a, x, k, w, rfl, hx, h0, h1, ⟨dx, hA⟩, q⟩ := h
  refine ⟨_, (pss_cons (ps_expr (C8.pe_mt c_Word__check_shift hr (by decide) (pv 0) (pa_cons (pv 1) pa_nil)))
      (pss_one (ps_ret (C8.pe_mk m_Word hr (by decide) (by rfl) (pa_cons (pe_op op_mod (pe_op op_shl (WOwn.pe_fl T.cl_Word T.na_Word_value (pv 0)) (pv 1)) (pe_op op_shl pe_int (WOwn.pe_fl T.cl_Word T.na_Word_width (pv 0)))) (pa_cons (WOwn.pe_fl T.cl_Word T.na_Word_width (pv 0)) pa_nil)))))), ?_⟩
  rw [show (L2.start ["self", "by"] [.ref a, .int k] : L2.St) = [some (.ref a), some (.int k)] from rfl]
  try simp only [WL.cxK]
  walk_at "go"
  refine WOwn.g_methR hA rfl ?_
  walk_at "go"
  refine ⟨a, k, rfl, h0, h1, ?_⟩
  walk_at "go"
  refine WOwn.g_flR hA rfl ?_
  walk_at "go"
  have := hx.a
  refine g_I (shlx hx h0 h1) ?_
  walk_at "go"
  refine WOwn.g_flR hA rfl ?_
  walk_at "go"
  refine g_I (shl1 (by omega) hx.b) ?_
  walk_at "go"
  refine g_I (pos1 _) ?_
  walk_at "go"
  refine WOwn.g_flR hA rfl ?_
  walk_at "go"
  refine g_newW (mod_wd hx.a hx.b) q
theorem ok_Word___rshift__ (T : Txt K mg dA) (c_Word__check_shift : C8.Met P w K mg base 1 (dA 200) "_check_shift" (spChk (dA 200)) []) (m_Word : C8.Mak P w K mg base 1 "Word" (dA 200) (spNew (dA 200)) []) {f : Addr} {fd : FuncData} (F : Fun K "__rshift__" "Word.__rshift__" s_Word___rshift__ f fd) : FnOk P w K mg base CX0 3 f fd ["self", "by"] (spSh (dA 200) fShr) := by
  refine F.ok sc_Word___rshift__ (fun vs H Q E h => ?_) (fun cdv A outer s H vs Q E hr h => ?_)
  · obtain ⟨a, x, k, w, rfl, _⟩ := h
    rfl
  obtain ⟨a, x, k, w, rfl, hx, h0, h1, ⟨dx, hA⟩, q⟩ := h
  refine ⟨_, (pss_cons (ps_expr (C8.pe_mt c_Word__check_shift hr (by decide) (pv 0) (pa_cons (pv 1) pa_nil)))
      (pss_one (ps_ret (C8.pe_mk m_Word hr (by decide) (by rfl) (pa_cons (pe_op op_shr (WOwn.pe_fl T.cl_Word T.na_Word_value (pv 0)) (pv 1)) (pa_cons (WOwn.pe_fl T.cl_Word T.na_Word_width (pv 0)) pa_nil)))))), ?_⟩
  rw [show (L2.start ["self", "by"] [.ref a, .int k] : L2.St) = [some (.ref a), some (.int k)] from rfl]
  try simp only [WL.cxK]
  walk_at "go"
  refine WOwn.g_methR hA rfl ?_
  walk_at "go"
  refine ⟨a, k, rfl, h0, h1, ?_⟩
  walk_at "go"
  refine WOwn.g_flR hA rfl ?_
  walk_at "go"
  refine WOwn.g_flR hA rfl ?_
  walk_at "go"
  refine g_newW (shr_wd hx) q
theorem ok_Word_below (T : Txt K mg dA) (c_Word__match : C8.Met P w K mg base 1 (dA 200) "_match" (spMatch (dA 200)) []) {f : Addr} {fd : FuncData} (F : Fun K "below" "Word.below" s_Word_below f fd) : FnOk P w K mg base CX0 2 f fd ["self", "other"] (spBelow (dA 200)) := by
  refine F.ok sc_Word_below (fun vs H Q E h => ?_) (fun cdv A outer s H vs Q E hr h => ?_)
  · obtain ⟨a, b, x, y, w, rfl, _⟩ := h
    rfl
  obtain ⟨a, b, x, y, w, rfl, ⟨dx, hA⟩, ⟨dy, hB⟩, q⟩ := h
  refine ⟨_, (pss_cons (ps_expr (C8.pe_mt c_Word__match hr (by decide) (pv 0) (pa_cons (pv 1) pa_nil)))
      (pss_one (ps_ret (pe_cmpR op_lt (WOwn.pe_fl T.cl_Word T.na_Word_value (pv 0)) (WOwn.pe_fl T.cl_Word T.na_Word_value (pv 1)) (nomark _))))), ?_⟩
  rw [show (L2.start ["self", "other"] [.ref a, .ref b] : L2.St) = [some (.ref a), some (.ref b)] from rfl]
  try simp only [WL.cxK]
  walk_at "go"
  refine WOwn.g_methR hA rfl ?_
  walk_at "go"
  refine ⟨a, b, x, y, w, rfl, ⟨dx, hA⟩, ⟨dy, hB⟩, ?_⟩
  walk_at "go"
  refine WOwn.g_flR hA rfl ?_
  walk_at "go"
  refine WOwn.g_flR hB rfl ?_
  walk_at "go"
  exact q
theorem ok_Word_part (T : Txt K mg dA) (m_Word : C8.Mak P w K mg base 1 "Word" (dA 200) (spNew (dA 200)) []) {f : Addr} {fd : FuncData} (F : Fun K "part" "Word.part" s_Word_part f fd) : FnOk P w K mg base CX0 3 f fd ["self", "high", "low"] (spPart (dA 200)) := by
  refine F.ok sc_Word_part (fun vs H Q E h => ?_) (fun cdv A outer s H vs Q E hr h => ?_)
  · obtain ⟨a, x, w, h, l, rfl, _⟩ := h
    rfl
  obtain ⟨a, x, w, h, l, rfl, hx, h0, h1, h2, ⟨dx, hA⟩, q⟩ := h
  refine ⟨_, (pss_cons (ps_if (PW.pt (pw_or (pt_cmpR op_lt (pv 2) pe_int (nomark _)) (pw_or (pt_cmpR op_gt (pv 2) (pv 1) (nomark _)) (pw_or1 (pt_cmpR op_ge (pv 1) (WOwn.pe_fl T.cl_Word T.na_Word_width (pv 0)) (nomark _)))))) pss_never pss_nil)
      (pss_cons (ps_set (i := 3) sc_Word_part.nd rfl (.inl rfl) (pe_op op_add (pe_op op_sub (pv 1) (pv 2)) pe_int))
      (pss_one (ps_ret (C8.pe_mk m_Word hr (by decide) (by rfl) (pa_cons (pe_op op_mod (pe_op op_shr (WOwn.pe_fl T.cl_Word T.na_Word_value (pv 0)) (pv 2)) (pe_op op_shl pe_int (pv 3))) (pa_cons (pv 3) pa_nil))))))), ?_⟩
  rw [show (L2.start ["self", "high", "low", "width"] [.ref a, .int h, .int l] : L2.St) = [some (.ref a), some (.int h), some (.int l), none] from rfl]
  try simp only [WL.cxK]
  walk_at "go"
  walk_at "no"
  walk_at "no"
  refine WOwn.g_flR hA rfl ?_
  walk_at "go"
  walk_at "no"
  refine WOwn.g_flR hA rfl ?_
  walk_at "go"
  have := hx.b
  refine g_I (shl1 (by omega) (by omega)) ?_
  walk_at "go"
  refine g_I (pos1 _) ?_
  walk_at "go"
  refine g_newW (mod_wd (by omega) (by omega)) q
end K12
set_option Elab.async false
set_option linter.all false
set_option maxRecDepth 100000
set_option maxHeartbeats 4000000
namespace K12
open PySem PySem.Spec PyProof.Rows L2 WL
local macro_rules | `(tactic| walk_at "lk") => `(tactic| first
  | exact upd_same
  | assumption
  | (rw [upd_ne (by assumption)]; first | exact upd_same | assumption | (rw [upd_ne (by assumption)]; first | exact upd_same | assumption | (rw [upd_ne (by assumption)]; first | exact upd_same | assumption))))
local macro_rules | `(tactic| walk_at "go1") => `(tactic| first
  | (with_reducible refine g_seq ?_)
  | (with_reducible refine g_asg ?_)
  | (with_reducible refine g_name ?_)
  | (with_reducible refine g_sub ?_)
  | ((with_reducible refine' g_var ?gv ?_); (case gv => exact rfl))
  | (with_reducible refine g_c ?_)
  | (with_reducible refine g_op ?_)
  | (with_reducible refine g_un ?_)
  | (with_reducible refine g_I0 ?_)
  | ((with_reducible refine g_I ?gc ?_); (case gc => first | assumption | decide | (show (0 : Int) < _; omega) | exact Or.inr ⟨by omega, by omega⟩ | exact Or.inl ⟨by omega, by omega⟩ | exact ⟨by omega, by omega⟩))
  | (with_reducible refine iteT ?_)
  | (with_reducible refine iteF ?_)
  | (with_reducible refine iteNT ?_)
  | (with_reducible refine iteNF ?_)
  | (with_reducible refine g_andV ?_)
  | (with_reducible refine g_orV ?_)
  | ((with_reducible refine' g_lenS (by assumption) ?_))
  | ((with_reducible refine' g_lenS (SqL.of (by walk_at "lk")) ?_))
  | (with_reducible refine g_U ?_)
  | ((with_reducible refine g_eq ?gs ?_); (case gs => rfl))
  | ((with_reducible refine g_ne ?gs ?_); (case gs => rfl))
  | (with_reducible refine g_drop ?_)
  | (with_reducible refine g_ret ?_)
  | (with_reducible refine g_next ?_)
  | (with_reducible refine g_ifS ?_)
  | (with_reducible refine g_ifE ?_)
  | (with_reducible refine g_test ?_)
  | (with_reducible refine g_tb ?_)
  | (with_reducible refine g_bl ?_)
  | (with_reducible refine g_not ?_)
  | (with_reducible refine g_and ?_)
  | (with_reducible refine g_or ?_)
  | (with_reducible refine g_nil ?_)
  | (with_reducible refine g_cons ?_)
  | (with_reducible refine g_cb ?_)
  | (with_reducible refine g_call ?_)
  | (with_reducible refine g_int ?_)
  | (with_reducible refine g_two ?_)
  | ((with_reducible refine g_lenStr ?gz ?_); (case gz => first | assumption | exact sz_le (by omega)))
  | (with_reducible refine g_m1 ?_)
  | (with_reducible refine g_isS ?_)
  | (with_reducible refine g_nn ?_)
  | (with_reducible refine g_yes ?_)
  | (with_reducible refine g_for ?_)
  | (with_reducible refine g_ckw ?_)
  | (with_reducible refine g_chain ?_)
  | (with_reducible refine g_gcons ?_)
  | (with_reducible refine g_gnil ?_)
  | (with_reducible refine g_notV ?_)
  | (with_reducible refine g_iZip ?_)
  | (with_reducible refine g_lc ?_)
  | (with_reducible refine g_lc2 ?_)
  | (with_reducible refine g_iList ?_)
  | (with_reducible refine g_iRng1 ?_)
  | (with_reducible refine g_iRng2 ?_)
  | (with_reducible refine g_sl ?_)
  | (with_reducible refine g_noPart ?_)
  | (with_reducible refine g_part ?_)
  | (with_reducible refine g_ex1 ?_)
  | (with_reducible refine g_bm ?_)
  | ((with_reducible refine' g_tyL (by walk_at "lk") ?_))
  | ((with_reducible refine' g_aug ?gv ?_); (case gv => exact rfl))
  | (with_reducible refine g_ipI ?_)
  | (with_reducible refine g_turn ?_)
  | (with_reducible refine g_brk ?_)
  | (with_reducible refine g_cont ?_)
  | (with_reducible refine g_sign ?_)
  | (with_reducible refine g_lst ?_)
  | (with_reducible refine g_tup ?_)
  | ((with_reducible refine' g_ixL (by assumption) ?ga ?_); (case ga => assumption))
  | ((with_reducible refine' g_ixL (SqL.of (by walk_at "lk")) ?ga ?_); (case ga => first | exact rfl | assumption))
  | ((with_reducible refine' g_ixT (SqT.of (by walk_at "lk")) ?ga ?_); (case ga => first | exact rfl | assumption))
  | ((with_reducible refine' g_lenT (SqT.of (by walk_at "lk")) ?_))
  | ((with_reducible refine' g_isiS (b := true) ?ga ?_); (case ga => decide +kernel))
  | ((with_reducible refine' g_isiS (b := false) ?ga ?_); (case ga => decide +kernel))
  | ((with_reducible refine' g_isiI (b := true) ?ga ?_); (case ga => decide +kernel))
  | ((with_reducible refine' g_isiI (b := false) ?ga ?_); (case ga => decide +kernel))
  | ((with_reducible refine' g_setL2 ?ga ?gb ?_); (case ga => exact rfl); (case gb => exact rfl))
  | ((with_reducible refine' g_setL (by walk_at "lk") ?ga ?gb ?_); (case ga => exact rfl); (case gb => exact rfl)))
local macro_rules | `(tactic| walk_at "go") => `(tactic| ((repeat walk_at "go1"); try dsimp only [List.set, List.cons_append, List.nil_append]))
local macro_rules | `(tactic| walk_at "go1") => `(tactic| first
  | (with_reducible refine WOwn.g_fl ?_)
  | (with_reducible refine WOwn.g_sfl ?_)
  | (with_reducible refine WOwn.g_make ?_)
  | (with_reducible refine WOwn.g_meth ?_)
  | (with_reducible refine WOwn.g_sm ?_)
  | (with_reducible refine WOwn.g_cv ?_))
/-- words: the address, the value, the width -/
abbrev Ws := List (Addr × Int × Int)
def rfs (l : Ws) : List V := l.map fun t => V.ref t.1
def At (C : Addr) (H : Hp) (l : Ws) : Prop := ∀ t ∈ l, Wd t.2.1 t.2.2 ∧ WA C H t.1 t.2.1 t.2.2
def gl : Int → Ws → Int
  | z, [] => z
  | z, t :: r => gl (z * 2 ^ t.2.2.toNat + t.2.1) r
def wsum (l : Ws) : Int := (l.map fun t => t.2.2).sum
theorem free_of {H H' : Hp} {r : Addr} (s : Same H H') (h : H' r = none) : H r = none := by
  cases e : H r with
  | none => rfl
  | some o => rw [s _ _ e] at h; cases h
theorem At.same {C : Addr} {H H' : Hp} {l : Ws} (s : Same H H') (h : At C H l) : At C H' l := fun t ht => ⟨(h t ht).1, (h t ht).2.same s⟩
theorem wsum_cons (t : Addr × Int × Int) (r : Ws) : wsum (t :: r) = t.2.2 + wsum r := by simp [wsum]
theorem wsum_nn : ∀ {l : Ws}, (∀ t ∈ l, Wd t.2.1 t.2.2) → (l.length : Int) ≤ wsum l
  | [], _ => by simp [wsum]
  | t :: r, h => by
    have h1 := (h t (List.mem_cons_self ..)).a
    have h2 := wsum_nn (l := r) fun u hu => h u (List.mem_cons_of_mem _ hu)
    rw [wsum_cons, List.length_cons]
    omega
theorem pow_add' {a b : Int} (ha : 0 ≤ a) (hb : 0 ≤ b) : (2 : Int) ^ (a + b).toNat = 2 ^ a.toNat * 2 ^ b.toNat := by
  rw [show (a + b).toNat = a.toNat + b.toNat by omega, Int.pow_add]
theorem gl_step {z k v u : Int} (hk : 0 ≤ k) (h0 : 0 ≤ z) (h1 : z < 2 ^ k.toNat) (hv : Wd v u) : 0 ≤ z * 2 ^ u.toNat + v ∧ z * 2 ^ u.toNat + v < 2 ^ (k + u).toNat := by
  have := hv.a
  have h3 := hv.c
  have h4 := hv.d
  have hp := two_pos u.toNat
  rw [pow_add' hk (by omega)]
  have hm : 0 ≤ z * 2 ^ u.toNat := Int.mul_nonneg h0 (by omega)
  have hm2 : z * 2 ^ u.toNat + 2 ^ u.toNat ≤ 2 ^ k.toNat * 2 ^ u.toNat := by
    have := Int.mul_le_mul_of_nonneg_right (c := 2 ^ u.toNat) (show z + 1 ≤ 2 ^ k.toNat by omega) (by omega)
    rw [Int.add_mul, Int.one_mul] at this
    exact this
  omega
theorem gl_bound : ∀ {l : Ws} {z k : Int}, (∀ t ∈ l, Wd t.2.1 t.2.2) → 0 ≤ k → 0 ≤ z → z < 2 ^ k.toNat → 0 ≤ gl z l ∧ gl z l < 2 ^ (k + wsum l).toNat
  | [], z, k, _, _, h0, h1 => by simpa [gl, wsum] using ⟨h0, h1⟩
  | t :: r, z, k, h, hk, h0, h1 => by
    have ht := h t (List.mem_cons_self ..)
    have hs := gl_step hk h0 h1 ht
    have := ht.a
    have ih := gl_bound (l := r) (fun u hu => h u (List.mem_cons_of_mem _ hu)) (k := k + t.2.2) (by omega) hs.1 hs.2
    rw [wsum_cons, show k + (t.2.2 + wsum r) = k + t.2.2 + wsum r by omega]
    exact ih
theorem gl_wd {l : Ws} (h : ∀ t ∈ l, Wd t.2.1 t.2.2) (hn : l ≠ []) (h16 : wsum l ≤ 16) : Wd (gl 0 l) (wsum l) := by
  have hb := gl_bound (z := 0) (k := 0) h (by decide) (by decide) (by decide)
  have hl := wsum_nn h
  have : 0 < l.length := List.length_pos_iff.mpr hn
  rw [Int.zero_add] at hb
  exact ⟨by omega, h16, hb.1, hb.2⟩
theorem gl_snoc : ∀ (l : Ws) (z : Int) (t : Addr × Int × Int), gl z (l ++ [t]) = gl z l * 2 ^ t.2.2.toNat + t.2.1
  | [], _, _ => rfl
  | _ :: r, _, t => gl_snoc r _ t
theorem wsum_snoc (l : Ws) (t : Addr × Int × Int) : wsum (l ++ [t]) = wsum l + t.2.2 := by simp [wsum]
theorem wsum_take {l : Ws} (h : ∀ t ∈ l, Wd t.2.1 t.2.2) (i : Nat) : wsum (l.take i) ≤ wsum l := by
  have e : wsum l = wsum (l.take i) + wsum (l.drop i) := by
    unfold wsum
    rw [← List.sum_append, ← List.map_append, List.take_append_drop]
  have := wsum_nn (l := l.drop i) fun t ht => h t (List.mem_of_mem_drop ht)
  omega
def spGlueT (C : Addr) : Sp := fun us H Q _ => ∃ (p : Addr) (l : Ws), us = [.ref p] ∧ H p = some (.tup (rfs l)) ∧ At C H l ∧ l ≠ [] ∧ wsum l ≤ 16 ∧ ∀ r H', H r = none → Same H H' → WA C H' r (gl 0 l) (wsum l) → Q (.ref r) H'
def spGlue (C : Addr) : Sp := fun us H Q E => ∃ ws rest, us = ws ++ rest ∧ ws.length = ([] : List Str).length ∧ rest.length ≤ sizeLine ∧ ∀ p, H p = none → spGlueT C (ws ++ [V.ref p]) (upd H p (.tup rest)) Q E
theorem g_glue {C : Addr} {H : Hp} {Q : VK} {E : XK} {l : Ws} (h : At C H l) (hn : l ≠ []) (h16 : wsum l ≤ 16) (q : ∀ r H', H r = none → Same H H' → WA C H' r (gl 0 l) (wsum l) → Q (.ref r) H') : spGlue C (rfs l) H Q E := by
  have hl := wsum_nn fun t ht => (h t ht).1
  refine ⟨[], rfs l, rfl, rfl, sz_le (show (rfs l).length ≤ 100000 by rw [rfs, List.length_map]; omega), fun p np => ⟨p, l, rfl, upd_same, h.same (same_new np), hn, h16, fun r H' nr s hw => q r H' ?_ ((same_new np).trans s) hw⟩⟩
  have : r ≠ p := fun e => by rw [e, upd_same] at nr; cases nr
  rw [upd_ne this] at nr
  exact nr
theorem g_iTup {K : PySem.W.Frag} {tl : TE} {σ : L2.St} {H : Hp} {R : It → Hp → Prop} (h : tl σ H fun x H1 => ∃ a, x = .ref a ∧ (∃ xs, SqT K H1 a xs) ∧ R (Itt K a) H1) : iTup K tl σ H R := h
local macro_rules | `(tactic| walk_at "go1") => `(tactic| (with_reducible refine g_iTup ?_))
variable {P : Program} {w : World} {K : PySem.W.Frag} {mg : Str → Option Value} {base : Heap} {dA : Nat → Addr}
theorem ok_glue (T : Txt K mg dA) (m_Word : C8.Mak P w K mg base 1 "Word" (dA 200) (spNew (dA 200)) []) {f : Addr} {fd : FuncData} (F : Fun K "glue" "Word.glue" s_Word_glue f fd) : FnR P w K mg base CX0 3 f (spGlue (dA 200)) := by
  obtain ⟨oc, od, kV, doc, pm, an, cdv, ct, osl, rfl, lk, hcd⟩ := F.ex
  refine StX.fn_star (pv := "words") (ps := []) lk hcd sc_Word_glue StX.cxUp_none (fun us rest hl => ?_) (fun A outer s H us Q E hr hsp => ?_)
  · obtain rfl : us = [] := List.length_eq_zero_iff.mp hl
    cases rest <;> rfl
  obtain ⟨p, l, rfl, hp, hA, hn, h16, q⟩ := hsp
  suffices hh : ∃ t, PSs (cxOf CX0 P w K mg base ["words", "width", "value", "word"] "Word.glue" (defScope s_Word_glue) f cdv A outer s H E).nox (defBody s_Word_glue) t ∧ t { nx := fun _ H' => Q .non H', rt := Q } (start ["words", "width", "value", "word"] [.ref p]) H by
    obtain ⟨t, ht, hq⟩ := hh
    exact ⟨t, ht.nox, hq⟩
  refine ⟨_, (pss_cons (ps_set (i := 1) sc_Word_glue.nd rfl (.inl rfl) (pe_callB (kcr_sum K) (by rfl) T.b_sum (by decide +kernel) (pa_cons (pe_lc (own := [("word", 3)]) rfl sc_Word_glue.nd (kpi_tup K (pv 0)) (blkOk_by (own := [("word", 3)]) (N := ["words", "width", "value", "word"]) (sc := defScope s_Word_glue) (by decide +kernel)) (fun _ _ _ _ _ => (pg_name (i := 3) sc_Word_glue.nd rfl (.inl rfl))) (fun _ _ _ _ _ => pts_nil) (fun _ _ _ _ _ => (WOwn.pe_fl T.cl_Word T.na_Word_width (pv 3)))) pa_nil)))
      (pss_cons (ps_if (PW.pt (pw_or (pt_cmpR op_lt (pv 1) pe_int (nomark _)) (pw_or1 (pt_cmpR op_gt (pv 1) (WOwn.kpe_cval K (C8.pe_gc (by rfl) T.gc_Word)) (nomark _))))) pss_never pss_nil)
      (pss_cons (ps_set (i := 2) sc_Word_glue.nd rfl (.inl rfl) pe_int)
      (pss_cons (ps_for PassesOwn.never rfl (kpi_tup K (pv 0)) (pg_name (i := 3) sc_Word_glue.nd rfl (.inl rfl)) (pss_one (ps_set (i := 2) sc_Word_glue.nd rfl (.inl rfl) (pe_op op_add (pe_op op_shl (pv 2) (WOwn.pe_fl T.cl_Word T.na_Word_width (pv 3))) (WOwn.pe_fl T.cl_Word T.na_Word_value (pv 3))))))
      (pss_one (ps_ret (C8.pe_mk m_Word hr (by decide) (by rfl) (pa_cons (pv 2) (pa_cons (pv 1) pa_nil))))))))), ?_⟩
  rw [show (L2.start ["words", "width", "value", "word"] [.ref p] : L2.St) = [some (.ref p), none, none, none] from rfl]
  try simp only [WL.cxK]
  walk_at "go"
  have hW : ∀ t ∈ l, Wd t.2.1 t.2.2 := fun t ht => (hA t ht).1
  have hlen := wsum_nn hW
  have hpos : 0 < l.length := List.length_pos_iff.mpr hn
  refine ⟨p, rfl, ⟨_, SqT.of hp⟩, fun D nD => lc_tup (xs := rfs l) (fun i H' => H' = upd H D (.lst ((l.take i).map fun t => V.int t.2.2))) rfl (fun i H' _ e => by rw [e]; exact SqT.of (same_new nD _ _ hp)) (fun i x H' hx e => ?_) fun H' e => ?_⟩
  · obtain ⟨t, ht, rfl⟩ := map_atG hx
    have htm := List.mem_of_getElem? ht
    obtain ⟨dt, hw⟩ := ((hA t htm).2.same (same_new nD (o := .lst ((l.take i).map fun t => V.int t.2.2))))
    subst e
    walk_at "go"
    refine ⟨rfl, ?_⟩
    walk_at "go"
    refine WOwn.g_flR hw rfl ?_
    walk_at "go"
    refine ⟨_, upd_same, ?_, ?_⟩
    · rw [List.length_map, List.length_take]; exact Nat.lt_of_lt_of_le (m := 17) (by omega) (by decide)
    · rw [upd_upd, List.take_succ, ht]
      simp
  subst e
  have sD := same_new nD (o := .lst ((l.take (rfs l).length).map fun t => V.int t.2.2))
  have hp2 := sD _ _ hp
  walk_at "go"
  refine ⟨D, l.map (fun t => t.2.2), rfl, SqL.of (by rw [upd_same, rfs, List.length_map, List.take_length, List.map_map]; rfl), ?_⟩
  walk_at "go"
  refine g_ite (fun e => absurd e (by have : wsum l = (l.map fun t => t.2.2).sum := rfl; omega)) (fun _ => ?_)
  walk_at "go"
  refine WOwn.cvR T.cv_Word_WIDEST ?_
  walk_at "go"
  refine g_ite (fun e => absurd e (by have : wsum l = (l.map fun t => t.2.2).sum := rfl; omega)) (fun _ => ?_)
  walk_at "go"
  refine ⟨p, rfl, ⟨_, SqT.of hp2⟩, for_tup (xs := rfs l) (fun i σ' H' => ∃ y, σ' = [some (.ref p), some (.int (wsum l)), some (.int (gl 0 (l.take i))), y] ∧ H' = upd H D (.lst ((l.take (rfs l).length).map fun t => V.int t.2.2))) ⟨_, rfl, rfl⟩ (fun i σ' H' _ ⟨_, _, e⟩ => by rw [e]; exact SqT.of hp2) (fun i x σ' H' hx hP => ?_) (fun σ' H' hP => ?_)⟩
  · obtain ⟨y, rfl, rfl⟩ := hP
    obtain ⟨t, ht, rfl⟩ := map_atG hx
    have htm := List.mem_of_getElem? ht
    have hwt := (hA t htm).1
    obtain ⟨dt, hw⟩ := (hA t htm).2.same sD
    have hb := gl_bound (l := l.take i) (z := 0) (k := 0) (fun u hu => hW u (List.mem_of_mem_take hu)) (by decide) (by decide) (by decide)
    have htk := wsum_take hW i
    have hbb := pow_le16 (w := 0 + wsum (l.take i)) (by omega)
    have := hwt.a
    walk_at "go"
    refine WOwn.g_flR hw rfl ?_
    walk_at "go"
    refine g_I ⟨by omega, by have := hwt.b; omega, by omega⟩ ?_
    walk_at "go"
    refine WOwn.g_flR hw rfl ?_
    walk_at "go"
    refine ⟨some (.ref t.1), ?_, rfl⟩
    rw [List.take_succ, ht]
    rw [show (some t).toList = [t] from rfl, gl_snoc]
  · obtain ⟨y, rfl, rfl⟩ := hP
    rw [rfs, List.length_map, List.take_length]
    walk_at "go"
    refine g_newW (gl_wd hW hn h16) fun r H' nr s hw => q r H' (free_of (by rw [rfs, List.length_map, List.take_length] at sD; exact sD) nr) (Same.trans (by rw [rfs, List.length_map, List.take_length] at sD; exact sD) s) hw
end K12
set_option Elab.async false
set_option linter.all false
set_option maxRecDepth 100000
set_option maxHeartbeats 4000000
namespace K12
open PySem PySem.Spec PyProof.Rows L2 WL
local macro_rules | `(tactic| walk_at "lk") => `(tactic| first
  | exact upd_same
  | assumption
  | (rw [upd_ne (by assumption)]; first | exact upd_same | assumption | (rw [upd_ne (by assumption)]; first | exact upd_same | assumption | (rw [upd_ne (by assumption)]; first | exact upd_same | assumption))))
local macro_rules | `(tactic| walk_at "go1") => `(tactic| first
  | (with_reducible refine g_seq ?_)
  | (with_reducible refine g_asg ?_)
  | (with_reducible refine g_name ?_)
  | (with_reducible refine g_sub ?_)
  | ((with_reducible refine' g_var ?gv ?_); (case gv => exact rfl))
  | (with_reducible refine g_c ?_)
  | (with_reducible refine g_op ?_)
  | (with_reducible refine g_un ?_)
  | (with_reducible refine g_I0 ?_)
  | ((with_reducible refine g_I ?gc ?_); (case gc => first | assumption | decide | (show (0 : Int) < _; omega) | exact Or.inr ⟨by omega, by omega⟩ | exact Or.inl ⟨by omega, by omega⟩ | exact ⟨by omega, by omega⟩))
  | (with_reducible refine iteT ?_)
  | (with_reducible refine iteF ?_)
  | (with_reducible refine iteNT ?_)
  | (with_reducible refine iteNF ?_)
  | (with_reducible refine g_andV ?_)
  | (with_reducible refine g_orV ?_)
  | ((with_reducible refine' g_lenS (by assumption) ?_))
  | ((with_reducible refine' g_lenS (SqL.of (by walk_at "lk")) ?_))
  | (with_reducible refine g_U ?_)
  | ((with_reducible refine g_eq ?gs ?_); (case gs => rfl))
  | ((with_reducible refine g_ne ?gs ?_); (case gs => rfl))
  | (with_reducible refine g_drop ?_)
  | (with_reducible refine g_ret ?_)
  | (with_reducible refine g_next ?_)
  | (with_reducible refine g_ifS ?_)
  | (with_reducible refine g_ifE ?_)
  | (with_reducible refine g_test ?_)
  | (with_reducible refine g_tb ?_)
  | (with_reducible refine g_bl ?_)
  | (with_reducible refine g_not ?_)
  | (with_reducible refine g_and ?_)
  | (with_reducible refine g_or ?_)
  | (with_reducible refine g_nil ?_)
  | (with_reducible refine g_cons ?_)
  | (with_reducible refine g_cb ?_)
  | (with_reducible refine g_call ?_)
  | (with_reducible refine g_int ?_)
  | (with_reducible refine g_two ?_)
  | ((with_reducible refine g_lenStr ?gz ?_); (case gz => first | assumption | exact sz_le (by omega)))
  | (with_reducible refine g_m1 ?_)
  | (with_reducible refine g_isS ?_)
  | (with_reducible refine g_nn ?_)
  | (with_reducible refine g_yes ?_)
  | (with_reducible refine g_for ?_)
  | (with_reducible refine g_ckw ?_)
  | (with_reducible refine g_chain ?_)
  | (with_reducible refine g_gcons ?_)
  | (with_reducible refine g_gnil ?_)
  | (with_reducible refine g_notV ?_)
  | (with_reducible refine g_iZip ?_)
  | (with_reducible refine g_lc ?_)
  | (with_reducible refine g_lc2 ?_)
  | (with_reducible refine g_iList ?_)
  | (with_reducible refine g_iRng1 ?_)
  | (with_reducible refine g_iRng2 ?_)
  | (with_reducible refine g_sl ?_)
  | (with_reducible refine g_noPart ?_)
  | (with_reducible refine g_part ?_)
  | (with_reducible refine g_ex1 ?_)
  | (with_reducible refine g_bm ?_)
  | ((with_reducible refine' g_tyL (by walk_at "lk") ?_))
  | ((with_reducible refine' g_aug ?gv ?_); (case gv => exact rfl))
  | (with_reducible refine g_ipI ?_)
  | (with_reducible refine g_turn ?_)
  | (with_reducible refine g_brk ?_)
  | (with_reducible refine g_cont ?_)
  | (with_reducible refine g_sign ?_)
  | (with_reducible refine g_lst ?_)
  | (with_reducible refine g_tup ?_)
  | ((with_reducible refine' g_ixL (by assumption) ?ga ?_); (case ga => assumption))
  | ((with_reducible refine' g_ixL (SqL.of (by walk_at "lk")) ?ga ?_); (case ga => first | exact rfl | assumption))
  | ((with_reducible refine' g_ixT (SqT.of (by walk_at "lk")) ?ga ?_); (case ga => first | exact rfl | assumption))
  | ((with_reducible refine' g_lenT (SqT.of (by walk_at "lk")) ?_))
  | ((with_reducible refine' g_isiS (b := true) ?ga ?_); (case ga => decide +kernel))
  | ((with_reducible refine' g_isiS (b := false) ?ga ?_); (case ga => decide +kernel))
  | ((with_reducible refine' g_isiI (b := true) ?ga ?_); (case ga => decide +kernel))
  | ((with_reducible refine' g_isiI (b := false) ?ga ?_); (case ga => decide +kernel))
  | ((with_reducible refine' g_setL2 ?ga ?gb ?_); (case ga => exact rfl); (case gb => exact rfl))
  | ((with_reducible refine' g_setL (by walk_at "lk") ?ga ?gb ?_); (case ga => exact rfl); (case gb => exact rfl)))
local macro_rules | `(tactic| walk_at "go") => `(tactic| ((repeat walk_at "go1"); try dsimp only [List.set, List.cons_append, List.nil_append]))
local macro_rules | `(tactic| walk_at "go1") => `(tactic| first
  | (with_reducible refine WOwn.g_fl ?_)
  | (with_reducible refine WOwn.g_sfl ?_)
  | (with_reducible refine WOwn.g_make ?_)
  | (with_reducible refine WOwn.g_meth ?_)
  | (with_reducible refine WOwn.g_sm ?_)
  | (with_reducible refine WOwn.g_cv ?_))
def Bx (b : Addr) (H : Hp) : Prop := ∃ x y z : Int, H b = some (.lst [.int x, .int y, .int z]) ∧ 0 ≤ x
def spNumber (K : PySem.W.Frag) : Sp := fun us H Q _ => ∃ (a : Addr) (ns : List Int) (i : Int), us = [.ref a, .int i] ∧ SqL K H a (ns.map V.int) ∧ ns.length ≤ 63 ∧ 0 ≤ i ∧ ∀ n : Int, 0 ≤ n → Q (.int n) H
def spBox (K : PySem.W.Frag) : Sp := fun us H Q _ => ∃ (a : Addr) (ns : List Int) (i : Int), us = [.ref a, .int i] ∧ SqL K H a (ns.map V.int) ∧ ns.length ≤ 63 ∧ 0 ≤ i ∧ ∀ b H', H b = none → Same H H' → Bx b H' → Q (.ref b) H'
def spDraw : Sp := fun us H Q _ => ∃ (b : Addr) (m : Int), us = [.ref b, .int m] ∧ Bx b H ∧ 1 ≤ m ∧ m ≤ 65536 ∧ ∀ d H', 0 ≤ d → d < m → Kp b H H' → Bx b H' → Q (.int d) H'
def spValue : Sp := fun us H Q _ => ∃ (b : Addr) (w : Int), us = [.ref b, .int w] ∧ Bx b H ∧ 1 ≤ w ∧ w ≤ 16 ∧ ∀ v H', Wd v w → Kp b H H' → Bx b H' → Q (.int v) H'
def spSecond : Sp := fun us H Q _ => ∃ (b : Addr) (a w : Int), us = [.ref b, .int a, .int w] ∧ Bx b H ∧ Wd a w ∧ ∀ v H', Wd v w → Kp b H H' → Bx b H' → Q (.int v) H'
def spPlain : Sp := fun us H Q _ => ∃ (x : Int), us = [.int x, .int x] ∧ Q (.bl true) H
def spIsWord (C : Addr) : Sp := fun us H Q _ => ∃ (a : Addr) (v w : Int), us = [.ref a, .int v, .int w] ∧ WA C H a v w ∧ Q (.bl true) H
def spTruth : Sp := fun us H Q _ => ∃ (b : Bool), us = [.bl b, .bl b] ∧ Q (.bl true) H
def spTrue3 : Sp := fun us H Q _ => ∃ (a b w : Int), us = [.int a, .int b, .int w] ∧ Wd a w ∧ Wd b w ∧ ∀ H', Same H H' → Q (.bl true) H'
def spTrue2 : Sp := fun us H Q _ => ∃ (a w : Int), us = [.int a, .int w] ∧ Wd a w ∧ ∀ H', Same H H' → Q (.bl true) H'
theorem g_plain {x y : Int} {H : Hp} {Q : VK} {E : XK} (e : x = y) (q : Q (.bl true) H) : spPlain [.int x, .int y] H Q E := ⟨x, by rw [e], q⟩
theorem g_isWord {C a : Addr} {v w v' w' : Int} {H : Hp} {Q : VK} {E : XK} (h : WA C H a v w) (e1 : v' = v) (e2 : w' = w) (q : Q (.bl true) H) : spIsWord C [.ref a, .int v', .int w'] H Q E := ⟨a, v, w, by rw [e1, e2], h, q⟩
theorem g_truth {b c : Bool} {H : Hp} {Q : VK} {E : XK} (e : b = c) (q : Q (.bl true) H) : spTruth [.bl b, .bl c] H Q E := ⟨b, by rw [e], q⟩
theorem g_draw {b : Addr} {m : Int} {H : Hp} {Q : VK} {E : XK} (hB : Bx b H) (h1 : 1 ≤ m) (h2 : m ≤ 65536) (q : ∀ d H', 0 ≤ d → d < m → Kp b H H' → Bx b H' → Q (.int d) H') : spDraw [.ref b, .int m] H Q E := ⟨b, m, rfl, hB, h1, h2, q⟩
theorem Bx.new {b p : Addr} {H : Hp} {o : HO} (h : Bx b H) (n : H p = none) : Bx b (upd H p o) := by
  obtain ⟨x, y, z, hb, h0⟩ := h
  exact ⟨x, y, z, same_new n _ _ hb, h0⟩
local macro_rules | `(tactic| walk_at "shl") => `(tactic| (try (refine g_I (shl1 (by omega) (by omega)) ?_; walk_at "go")))
local macro_rules | `(tactic| walk_at "pos") => `(tactic| (try (refine g_I (pos1 _) ?_; walk_at "go")))
local macro_rules | `(tactic| walk_at "no") => `(tactic| (refine g_ite (fun e => absurd e (by omega)) (fun _ => ?_); walk_at "go"))
variable {P : Program} {w : World} {K : PySem.W.Frag} {mg : Str → Option Value} {base : Heap} {dA : Nat → Addr}
theorem ok__law_number (T : Txt K mg dA)  {f : Addr} {fd : FuncData} (F : Fun K "_law_number" "_law_number" s__law_number f fd) : FnOk P w K mg base CX0 1 f fd ["script", "place"] (spNumber K) := by
  refine F.ok sc__law_number (fun vs H Q E h => ?_) (fun cdv A outer s H vs Q E hr h => ?_)
  · obtain ⟨a, ns, i, rfl, _⟩ := h
    rfl
  obtain ⟨a, ns, i, rfl, hS, hl, h0, q⟩ := h
  refine ⟨_, (pss_cons (ps_if (pt_cmpR op_lt (pv 1) (pe_callB (kcall_len_seq K) (by rfl) T.b_len (by decide +kernel) (pa_cons (pv 0) pa_nil)) (nomark _)) (pss_one (ps_ret (pe_callB call_abs (by rfl) T.b_abs (by decide +kernel) (pa_cons (pe_callTy call_int1 (by rfl) T.b_int (by decide +kernel) (pa_cons (pe_ix (kix_list K) (pv 0) (pv 1) (fun _ _ => rfl)) pa_nil)) pa_nil)))) pss_nil)
      (pss_one (ps_ret pe_int))), ?_⟩
  rw [show (L2.start ["script", "place"] [.ref a, .int i] : L2.St) = [some (.ref a), some (.int i)] from rfl]
  try simp only [WL.cxK]
  walk_at "go"
  rw [List.length_map]
  refine g_ite (fun e => ?_) (fun e => ?_)
  · have hj : i.toNat < ns.length := by omega
    walk_at "go"
    refine g_ixL hS (at_z (j := i.toNat) (by omega) (by rw [List.getElem?_map, List.getElem?_eq_getElem hj]; rfl)) ?_
    walk_at "go"
    refine ⟨_, rfl, q _ ?_⟩
    split <;> omega
  · walk_at "go"
    exact q 0 (by decide)
theorem ok__law_box (T : Txt K mg dA) (c__law_number : C8.Cal P w K mg base 1 "_law_number" (spNumber K) []) {f : Addr} {fd : FuncData} (F : Fun K "_law_box" "_law_box" s__law_box f fd) : FnOk P w K mg base CX0 2 f fd ["script", "place"] (spBox K) := by
  refine F.ok sc__law_box (fun vs H Q E h => ?_) (fun cdv A outer s H vs Q E hr h => ?_)
  · obtain ⟨a, ns, i, rfl, _⟩ := h
    rfl
  obtain ⟨a, ns, i, rfl, hS, hl, h0, q⟩ := h
  refine ⟨_, (pss_cons (ps_set (i := 2) sc__law_box.nd rfl (.inl rfl) (C8.pe_c c__law_number hr (by decide) (by rfl) (pa_cons (pv 0) (pa_cons (pv 1) pa_nil))))
      (pss_cons (ps_set (i := 3) sc__law_box.nd rfl (.inl rfl) (pe_op op_add (pe_op op_add (pe_op op_mod (pe_callTy call_int1 (by rfl) T.b_int (by decide +kernel) (pa_cons (pv 2) pa_nil)) pe_int) (pe_op op_mul pe_int (pv 1))) (pe_op op_mul pe_int (pe_op op_mod (pe_callTy call_int1 (by rfl) T.b_int (by decide +kernel) (pa_cons (C8.pe_c c__law_number hr (by decide) (by rfl) (pa_cons (pv 0) (pa_cons pe_int pa_nil))) pa_nil)) pe_int))))
      (pss_cons (ps_if (pt_cmpR op_lt (pv 2) (pe_op op_pow pe_int pe_int) (nomark _)) (pss_one (ps_set (i := 2) sc__law_box.nd rfl (.inl rfl) pe_int)) pss_nil)
      (pss_one (ps_ret (pe_lst (pa_cons (pv 2) (pa_cons (pv 3) (pa_cons pe_int pa_nil))))))))), ?_⟩
  rw [show (L2.start ["script", "place", "cell", "seed"] [.ref a, .int i] : L2.St) = [some (.ref a), some (.int i), none, none] from rfl]
  try simp only [WL.cxK]
  walk_at "go"
  refine ⟨a, ns, i, rfl, hS, hl, h0, fun n hn => ?_⟩
  walk_at "go"
  refine ⟨a, ns, 0, rfl, hS, hl, by decide, fun n2 hn2 => ?_⟩
  walk_at "go"
  have fin : ∀ x y : Int, 0 ≤ x → ∀ b, H b = none → Q (.ref b) (upd H b (.lst [.int x, .int y, .int 0])) := fun x y hx b nb => q b _ nb (same_new nb) ⟨_, _, _, upd_same, hx⟩
  refine g_ite (fun e => ?_) (fun e => ?_)
  · walk_at "go"
    exact ⟨sz_le (n := 3) (by decide), fun b nb => fin _ _ (by decide) b nb⟩
  · walk_at "go"
    exact ⟨sz_le (n := 3) (by decide), fun b nb => fin _ _ hn b nb⟩
theorem ok__law_draw (T : Txt K mg dA)  {f : Addr} {fd : FuncData} (F : Fun K "_law_draw" "_law_draw" s__law_draw f fd) : FnOk P w K mg base CX0 1 f fd ["box", "many"] spDraw := by
  refine F.ok sc__law_draw (fun vs H Q E h => ?_) (fun cdv A outer s H vs Q E hr h => ?_)
  · obtain ⟨b, m, rfl, _⟩ := h
    rfl
  obtain ⟨b, m, rfl, ⟨x, y, z, hb, hx⟩, hm, hm2, q⟩ := h
  refine ⟨_, (pss_cons (ps_set (i := 2) sc__law_draw.nd rfl (.inl rfl) (pe_op op_mod (pe_callTy call_int1 (by rfl) T.b_int (by decide +kernel) (pa_cons (pe_ix (kix_list K) (pv 0) pe_int (fun _ _ => rfl)) pa_nil)) (pv 1)))
      (pss_cons (ps_if (pt_cmpR op_gt (pe_ix (kix_list K) (pv 0) pe_int (fun _ _ => rfl)) pe_int (nomark _)) (pss_cons (ps_asg (pe_op op_fdiv (pe_ix (kix_list K) (pv 0) pe_int (fun _ _ => rfl)) (pv 1)) (pg_sub (pv 0) pe_int set_list))
      (pss_one (ps_ret (pv 2)))) pss_nil)
      (pss_cons (ps_asg (pe_op op_add (pe_ix (kix_list K) (pv 0) pe_int (fun _ _ => rfl)) pe_int) (pg_sub (pv 0) pe_int set_list))
      (pss_cons (ps_set (i := 3) sc__law_draw.nd rfl (.inl rfl) (pe_op op_mod (pe_callTy call_int1 (by rfl) T.b_int (by decide +kernel) (pa_cons (pe_op op_add (pe_op op_add (pe_op op_mul (pe_ix (kix_list K) (pv 0) pe_int (fun _ _ => rfl)) pe_int) (pe_op op_mul (pe_ix (kix_list K) (pv 0) pe_int (fun _ _ => rfl)) pe_int)) pe_int) pa_nil)) pe_int))
      (pss_cons (ps_set (i := 4) sc__law_draw.nd rfl (.inl rfl) (pe_op op_mod (pe_callTy call_int1 (by rfl) T.b_int (by decide +kernel) (pa_cons (pe_op op_add (pe_op op_mul (pv 3) (pv 3)) (pe_op op_mul (pe_ix (kix_list K) (pv 0) pe_int (fun _ _ => rfl)) pe_int)) pa_nil)) pe_int))
      (pss_one (ps_ret (pe_op op_mod (pe_op op_mod (pe_callTy call_int1 (by rfl) T.b_int (by decide +kernel) (pa_cons (pe_op op_add (pe_op op_add (pe_op op_mul (pv 4) (pv 4)) (pe_op op_mul (pv 3) pe_int)) (pe_ix (kix_list K) (pv 0) pe_int (fun _ _ => rfl))) pa_nil)) pe_int) (pv 1))))))))), ?_⟩
  rw [show (L2.start ["box", "many", "digit", "one", "two"] [.ref b, .int m] : L2.St) = [some (.ref b), some (.int m), none, none, none] from rfl]
  try simp only [WL.cxK]
  have hfin : ∀ z : Int, 0 ≤ z % m ∧ z % m < m := fun z => ⟨Int.emod_nonneg _ (by omega), Int.emod_lt_of_pos _ (by omega)⟩
  walk_at "go"
  refine g_ite (fun e => ?_) (fun e => ?_)
  · walk_at "go"
    exact q _ _ (hfin _).1 (hfin _).2 (Kp.refl H).set ⟨_, _, _, upd_same, Int.ediv_nonneg hx (by omega)⟩
  · walk_at "go"
    exact q _ _ (hfin _).1 (hfin _).2 (Kp.refl H).set ⟨_, _, _, upd_same, hx⟩
theorem ok__law_value (T : Txt K mg dA) (c__law_draw : C8.Cal P w K mg base 1 "_law_draw" spDraw []) {f : Addr} {fd : FuncData} (F : Fun K "_law_value" "_law_value" s__law_value f fd) : FnOk P w K mg base CX0 2 f fd ["box", "width"] spValue := by
  refine F.ok sc__law_value (fun vs H Q E h => ?_) (fun cdv A outer s H vs Q E hr h => ?_)
  · obtain ⟨b, w, rfl, _⟩ := h
    rfl
  obtain ⟨b, w, rfl, hB, h1, h2, q⟩ := h
  refine ⟨_, (pss_cons (ps_set (i := 2) sc__law_value.nd rfl (.inl rfl) (pe_op op_sub (pe_op op_shl pe_int (pv 1)) pe_int))
      (pss_cons (ps_set (i := 3) sc__law_value.nd rfl (.inl rfl) (C8.pe_c c__law_draw hr (by decide) (by rfl) (pa_cons (pv 0) (pa_cons pe_int pa_nil))))
      (pss_cons (ps_if (pt_cmpR op_lt (pv 3) pe_int (nomark _)) (pss_one (ps_ret (pe_ix (kix_list K) (pe_lst (pa_cons pe_int (pa_cons (pv 2) (pa_cons (pe_op op_shl pe_int (pe_op op_sub (pv 1) pe_int)) pa_nil)))) (pv 3) (fun _ _ => rfl)))) pss_nil)
      (pss_one (ps_ret (C8.pe_c c__law_draw hr (by decide) (by rfl) (pa_cons (pv 0) (pa_cons (pe_op op_shl pe_int (pv 1)) pa_nil)))))))), ?_⟩
  rw [show (L2.start ["box", "width", "top", "way"] [.ref b, .int w] : L2.St) = [some (.ref b), some (.int w), none, none] from rfl]
  try simp only [WL.cxK]
  have h16 := pow_le16 h2
  have hp := two_pos w.toNat
  walk_at "go"
  walk_at "shl"
  refine g_draw hB (by decide) (by decide) fun d H1 d0 d1 k1 hB1 => ?_
  walk_at "go"
  refine g_ite (fun e => ?_) (fun e => ?_)
  · walk_at "go"
    walk_at "shl"
    refine ⟨sz_le (n := 3) (by decide), fun c nc => ?_⟩
    walk_at "go"
    have hk := k1.new (o := .lst [V.int 0, V.int (1 * 2 ^ w.toNat - 1), V.int (1 * 2 ^ (w - 1).toNat)]) nc
    have hw : (2 : Int) ^ w.toNat = 2 ^ (w - 1).toNat * 2 := by
      rw [show w.toNat = (w - 1).toNat + 1 by omega, Int.pow_succ]
    have hp1 := two_pos (w - 1).toNat
    have hd : d = 0 ∨ d = 1 ∨ d = 2 := by omega
    rcases hd with rfl | rfl | rfl
    · refine g_ixL (SqL.of upd_same) rfl ?_
      walk_at "go"
      exact q _ _ ⟨h1, h2, by omega, by omega⟩ hk (hB1.new nc)
    · refine g_ixL (SqL.of upd_same) rfl ?_
      walk_at "go"
      exact q _ _ ⟨h1, h2, by rw [Int.one_mul]; omega, by rw [Int.one_mul]; omega⟩ hk (hB1.new nc)
    · refine g_ixL (SqL.of upd_same) rfl ?_
      walk_at "go"
      exact q _ _ ⟨h1, h2, by rw [Int.one_mul]; omega, by rw [Int.one_mul]; omega⟩ hk (hB1.new nc)
  · walk_at "go"
    walk_at "shl"
    refine g_draw hB1 (by rw [Int.one_mul]; omega) (by rw [Int.one_mul]; omega) fun z H2 z0 z1 k2 hB2 => ?_
    rw [Int.one_mul] at z1
    exact q _ _ ⟨h1, h2, z0, z1⟩ (k1.trans k2) hB2
theorem ok__law_second (T : Txt K mg dA) (c__law_draw : C8.Cal P w K mg base 1 "_law_draw" spDraw []) (c__law_value : C8.Cal P w K mg base 2 "_law_value" spValue []) {f : Addr} {fd : FuncData} (F : Fun K "_law_second" "_law_second" s__law_second f fd) : FnOk P w K mg base CX0 3 f fd ["box", "a", "width"] spSecond := by
  refine F.ok sc__law_second (fun vs H Q E h => ?_) (fun cdv A outer s H vs Q E hr h => ?_)
  · obtain ⟨b, a, w, rfl, _⟩ := h
    rfl
  obtain ⟨b, a, w, rfl, hB, ha, q⟩ := h
  refine ⟨_, (pss_cons (ps_set (i := 3) sc__law_second.nd rfl (.inl rfl) (pe_op op_sub (pe_op op_shl pe_int (pv 2)) pe_int))
      (pss_cons (ps_set (i := 4) sc__law_second.nd rfl (.inl rfl) (C8.pe_c c__law_draw hr (by decide) (by rfl) (pa_cons (pv 0) (pa_cons pe_int pa_nil))))
      (pss_cons (ps_if (pt_cmpR op_lt (pv 4) pe_int (nomark _)) (pss_one (ps_ret (pe_ix (kix_list K) (pe_lst (pa_cons (pv 1) (pa_cons (pe_op op_sub (pv 3) (pv 1)) (pa_cons (pe_op op_mod (pe_callTy call_int1 (by rfl) T.b_int (by decide +kernel) (pa_cons (pe_op op_add (pv 1) pe_int) pa_nil)) (pe_op op_shl pe_int (pv 2))) pa_nil)))) (pv 4) (fun _ _ => rfl)))) pss_nil)
      (pss_one (ps_ret (C8.pe_c c__law_value hr (by decide) (by rfl) (pa_cons (pv 0) (pa_cons (pv 2) pa_nil)))))))), ?_⟩
  rw [show (L2.start ["box", "a", "width", "top", "way"] [.ref b, .int a, .int w] : L2.St) = [some (.ref b), some (.int a), some (.int w), none, none] from rfl]
  try simp only [WL.cxK]
  have h1 := ha.a
  have h2 := ha.b
  have h3 := ha.c
  have h4 := ha.d
  walk_at "go"
  walk_at "shl"
  refine g_draw hB (by decide) (by decide) fun d H1 d0 d1 k1 hB1 => ?_
  walk_at "go"
  refine g_ite (fun e => ?_) (fun e => ?_)
  · walk_at "go"
    walk_at "shl"
    walk_at "pos"
    refine ⟨sz_le (n := 3) (by decide), fun c nc => ?_⟩
    walk_at "go"
    have hk := k1.new (o := .lst [V.int a, V.int (1 * 2 ^ w.toNat - 1 - a), V.int ((a + 1) % (1 * 2 ^ w.toNat))]) nc
    have hd : d = 0 ∨ d = 1 ∨ d = 2 := by omega
    rcases hd with rfl | rfl | rfl
    · refine g_ixL (SqL.of upd_same) rfl ?_
      walk_at "go"
      exact q _ _ ha hk (hB1.new nc)
    · refine g_ixL (SqL.of upd_same) rfl ?_
      walk_at "go"
      exact q _ _ (inv_wd ha) hk (hB1.new nc)
    · refine g_ixL (SqL.of upd_same) rfl ?_
      walk_at "go"
      exact q _ _ (mod_wd h1 h2) hk (hB1.new nc)
  · walk_at "go"
    exact ⟨b, w, rfl, hB1, h1, h2, fun v H2 hv k2 hB2 => q _ _ hv (k1.trans k2) hB2⟩
theorem ok__law_plain (T : Txt K mg dA)  {f : Addr} {fd : FuncData} (F : Fun K "_law_plain" "_law_plain" s__law_plain f fd) : FnOk P w K mg base CX0 1 f fd ["found", "due"] spPlain := by
  refine F.ok sc__law_plain (fun vs H Q E h => ?_) (fun cdv A outer s H vs Q E hr h => ?_)
  · obtain ⟨x, rfl, _⟩ := h
    rfl
  obtain ⟨x, rfl, q⟩ := h
  refine ⟨_, (pss_one (ps_ret (pe_and (pe_callB (kcall_isi K) (by rfl) T.b_isinstance (by decide +kernel) (pa_cons (pv 0) (pa_cons (pe_bltn (v := .ty "int") (by rfl) T.b_int (by decide +kernel) rfl) pa_nil))) (pe_and (pe_not (pe_callB (kcall_isi K) (by rfl) T.b_isinstance (by decide +kernel) (pa_cons (pv 0) (pa_cons (pe_bltn (v := .ty "bool") (by rfl) T.b_bool (by decide +kernel) rfl) pa_nil)))) (pe_one (pe_cmpR op_eq (pv 0) (pv 1) (nomark _))))))), ?_⟩
  rw [show (L2.start ["found", "due"] [.int x, .int x] : L2.St) = [some (.int x), some (.int x)] from rfl]
  try simp only [WL.cxK]
  walk_at "go"
  rw [decide_eq_true rfl]
  exact q
theorem ok__law_is_word (T : Txt K mg dA) (c__law_plain : C8.Cal P w K mg base 1 "_law_plain" spPlain []) {f : Addr} {fd : FuncData} (F : Fun K "_law_is_word" "_law_is_word" s__law_is_word f fd) : FnOk P w K mg base CX0 2 f fd ["found", "value", "width"] (spIsWord (dA 200)) := by
  refine F.ok sc__law_is_word (fun vs H Q E h => ?_) (fun cdv A outer s H vs Q E hr h => ?_)
  · obtain ⟨a, v, w, rfl, _⟩ := h
    rfl
  obtain ⟨a, v, w, rfl, ⟨dx, hA⟩, q⟩ := h
  refine ⟨_, (pss_cons (ps_if (pt_not (pt_val (pe_callB (kcall_isi K) (by rfl) T.b_isinstance (by decide +kernel) (pa_cons (pv 0) (pa_cons (C8.pe_gc (by rfl) T.gc_Word) pa_nil))))) (pss_one (ps_ret pe_bl)) pss_nil)
      (pss_one (ps_ret (pe_and (C8.pe_c c__law_plain hr (by decide) (by rfl) (pa_cons (WOwn.pe_fl T.cl_Word T.na_Word_value (pv 0)) (pa_cons (pv 1) pa_nil))) (pe_one (C8.pe_c c__law_plain hr (by decide) (by rfl) (pa_cons (WOwn.pe_fl T.cl_Word T.na_Word_width (pv 0)) (pa_cons (pv 2) pa_nil)))))))), ?_⟩
  rw [show (L2.start ["found", "value", "width"] [.ref a, .int v, .int w] : L2.St) = [some (.ref a), some (.int v), some (.int w)] from rfl]
  try simp only [WL.cxK]
  walk_at "go"
  refine WOwn.g_isC T.ic_Word hA ?_
  walk_at "go"
  refine WOwn.g_flR hA rfl ?_
  walk_at "go"
  refine g_plain rfl ?_
  walk_at "go"
  refine WOwn.g_flR hA rfl ?_
  walk_at "go"
  exact g_plain rfl q
theorem ok__law_truth (T : Txt K mg dA)  {f : Addr} {fd : FuncData} (F : Fun K "_law_truth" "_law_truth" s__law_truth f fd) : FnOk P w K mg base CX0 1 f fd ["found", "due"] spTruth := by
  refine F.ok sc__law_truth (fun vs H Q E h => ?_) (fun cdv A outer s H vs Q E hr h => ?_)
  · obtain ⟨b, rfl, _⟩ := h
    rfl
  obtain ⟨b, rfl, q⟩ := h
  refine ⟨_, (pss_cons (ps_if (pt_val (pv 1)) (pss_one (ps_ret (pe_cmpR op_isBl (pv 0) pe_bl (nomark _)))) pss_nil)
      (pss_one (ps_ret (pe_cmpR op_isBl (pv 0) pe_bl (nomark _))))), ?_⟩
  rw [show (L2.start ["found", "due"] [.bl b, .bl b] : L2.St) = [some (.bl b), some (.bl b)] from rfl]
  try simp only [WL.cxK]
  walk_at "go"
  refine g_iteB (fun e => ?_) (fun e => ?_)
  · subst e
    walk_at "go"
    exact ⟨_, _, rfl, rfl, q⟩
  · subst e
    walk_at "go"
    exact ⟨_, _, rfl, rfl, q⟩
end K12
set_option Elab.async false
set_option linter.all false
set_option maxRecDepth 100000
set_option maxHeartbeats 4000000
namespace K12
open PySem PySem.Spec PyProof.Rows L2 WL
local macro_rules | `(tactic| walk_at "lk") => `(tactic| first
  | exact upd_same
  | assumption
  | (rw [upd_ne (by assumption)]; first | exact upd_same | assumption | (rw [upd_ne (by assumption)]; first | exact upd_same | assumption | (rw [upd_ne (by assumption)]; first | exact upd_same | assumption))))
local macro_rules | `(tactic| walk_at "go1") => `(tactic| first
  | (with_reducible refine g_seq ?_)
  | (with_reducible refine g_asg ?_)
  | (with_reducible refine g_name ?_)
  | (with_reducible refine g_sub ?_)
  | ((with_reducible refine' g_var ?gv ?_); (case gv => exact rfl))
  | (with_reducible refine g_c ?_)
  | (with_reducible refine g_op ?_)
  | (with_reducible refine g_un ?_)
  | (with_reducible refine g_I0 ?_)
  | ((with_reducible refine g_I ?gc ?_); (case gc => first | assumption | decide | (show (0 : Int) < _; omega) | exact Or.inr ⟨by omega, by omega⟩ | exact Or.inl ⟨by omega, by omega⟩ | exact ⟨by omega, by omega⟩))
  | (with_reducible refine iteT ?_)
  | (with_reducible refine iteF ?_)
  | (with_reducible refine iteNT ?_)
  | (with_reducible refine iteNF ?_)
  | (with_reducible refine g_andV ?_)
  | (with_reducible refine g_orV ?_)
  | ((with_reducible refine' g_lenS (by assumption) ?_))
  | ((with_reducible refine' g_lenS (SqL.of (by walk_at "lk")) ?_))
  | (with_reducible refine g_U ?_)
  | ((with_reducible refine g_eq ?gs ?_); (case gs => rfl))
  | ((with_reducible refine g_ne ?gs ?_); (case gs => rfl))
  | (with_reducible refine g_drop ?_)
  | (with_reducible refine g_ret ?_)
  | (with_reducible refine g_next ?_)
  | (with_reducible refine g_ifS ?_)
  | (with_reducible refine g_ifE ?_)
  | (with_reducible refine g_test ?_)
  | (with_reducible refine g_tb ?_)
  | (with_reducible refine g_bl ?_)
  | (with_reducible refine g_not ?_)
  | (with_reducible refine g_and ?_)
  | (with_reducible refine g_or ?_)
  | (with_reducible refine g_nil ?_)
  | (with_reducible refine g_cons ?_)
  | (with_reducible refine g_cb ?_)
  | (with_reducible refine g_call ?_)
  | (with_reducible refine g_int ?_)
  | (with_reducible refine g_two ?_)
  | ((with_reducible refine g_lenStr ?gz ?_); (case gz => first | assumption | exact sz_le (by omega)))
  | (with_reducible refine g_m1 ?_)
  | (with_reducible refine g_isS ?_)
  | (with_reducible refine g_nn ?_)
  | (with_reducible refine g_yes ?_)
  | (with_reducible refine g_for ?_)
  | (with_reducible refine g_ckw ?_)
  | (with_reducible refine g_chain ?_)
  | (with_reducible refine g_gcons ?_)
  | (with_reducible refine g_gnil ?_)
  | (with_reducible refine g_notV ?_)
  | (with_reducible refine g_iZip ?_)
  | (with_reducible refine g_lc ?_)
  | (with_reducible refine g_lc2 ?_)
  | (with_reducible refine g_iList ?_)
  | (with_reducible refine g_iRng1 ?_)
  | (with_reducible refine g_iRng2 ?_)
  | (with_reducible refine g_sl ?_)
  | (with_reducible refine g_noPart ?_)
  | (with_reducible refine g_part ?_)
  | (with_reducible refine g_ex1 ?_)
  | (with_reducible refine g_bm ?_)
  | ((with_reducible refine' g_tyL (by walk_at "lk") ?_))
  | ((with_reducible refine' g_aug ?gv ?_); (case gv => exact rfl))
  | (with_reducible refine g_ipI ?_)
  | (with_reducible refine g_turn ?_)
  | (with_reducible refine g_brk ?_)
  | (with_reducible refine g_cont ?_)
  | (with_reducible refine g_sign ?_)
  | (with_reducible refine g_lst ?_)
  | (with_reducible refine g_tup ?_)
  | ((with_reducible refine' g_ixL (by assumption) ?ga ?_); (case ga => assumption))
  | ((with_reducible refine' g_ixL (SqL.of (by walk_at "lk")) ?ga ?_); (case ga => first | exact rfl | assumption))
  | ((with_reducible refine' g_ixT (SqT.of (by walk_at "lk")) ?ga ?_); (case ga => first | exact rfl | assumption))
  | ((with_reducible refine' g_lenT (SqT.of (by walk_at "lk")) ?_))
  | ((with_reducible refine' g_isiS (b := true) ?ga ?_); (case ga => decide +kernel))
  | ((with_reducible refine' g_isiS (b := false) ?ga ?_); (case ga => decide +kernel))
  | ((with_reducible refine' g_isiI (b := true) ?ga ?_); (case ga => decide +kernel))
  | ((with_reducible refine' g_isiI (b := false) ?ga ?_); (case ga => decide +kernel))
  | ((with_reducible refine' g_setL2 ?ga ?gb ?_); (case ga => exact rfl); (case gb => exact rfl))
  | ((with_reducible refine' g_setL (by walk_at "lk") ?ga ?gb ?_); (case ga => exact rfl); (case gb => exact rfl)))
local macro_rules | `(tactic| walk_at "go") => `(tactic| ((repeat walk_at "go1"); try dsimp only [List.set, List.cons_append, List.nil_append]))
local macro_rules | `(tactic| walk_at "go1") => `(tactic| first
  | (with_reducible refine WOwn.g_fl ?_)
  | (with_reducible refine WOwn.g_sfl ?_)
  | (with_reducible refine WOwn.g_make ?_)
  | (with_reducible refine WOwn.g_meth ?_)
  | (with_reducible refine WOwn.g_sm ?_)
  | (with_reducible refine WOwn.g_cv ?_))
theorem g_newR {C : Addr} {v w : Int} {H : Hp} {R : Addr → Hp → Prop} {E : XK} (hw : Wd v w) (q : ∀ x H', H x = none → Same H H' → WA C H' x v w → R x H') :
    ∀ x dx, H x = none → H dx = none → dx ≠ x → spNew C [.ref x, .int v, .int w] (upd (upd H dx (.own x)) x (.ins C dx [])) (fun u H2 => u = .non ∧ R x H2) E :=
  fun x dx nx nd hne => ⟨x, dx, v, w, rfl, hw, upd_same, rfl, q x _ nx (fun b o hb => by
    have h1 : b ≠ x := ne_of_none hb nx
    have h2 : b ≠ dx := ne_of_none hb nd
    rw [upd_ne h1, upd_ne h1, upd_ne h2]; exact hb) ⟨dx, upd_same⟩⟩
theorem g_ownR {C : Addr} {H : Hp} {E : XK} {f : Int → Int → Int → Int} {a b : Addr} {x y w : Int} {R : V → Hp → Prop} (hx : Wd x w) (hy : Wd y w) (ha : WA C H a x w) (hb : WA C H b y w) (q : ∀ r H', H r = none → Same H H' → WA C H' r (f x y w) w → R (.ref r) H') :
    WOwn.rOwn C (spBin C f) E (.ref a) (.ref b) H R := WOwn.g_own ha.ins hb.ins ⟨a, b, x, y, w, rfl, hx, hy, ha, hb, q⟩
theorem g_unR {C : Addr} {H : Hp} {E : XK} {f : Int → Int → Int} {a : Addr} {x w : Int} {R : V → Hp → Prop} (hx : Wd x w) (ha : WA C H a x w) (q : ∀ r H', H r = none → Same H H' → WA C H' r (f x w) w → R (.ref r) H') :
    WOwn.rOwnU C (spUn C f) E (.ref a) H R := WOwn.g_ownU ha.ins ⟨a, x, w, rfl, hx, ha, q⟩
theorem g_shR {C : Addr} {H : Hp} {E : XK} {f : Int → Int → Int → Int} {a : Addr} {x k w : Int} {R : V → Hp → Prop} (hx : Wd x w) (h0 : 0 ≤ k) (h1 : k ≤ 16) (ha : WA C H a x w) (q : ∀ r H', H r = none → Same H H' → WA C H' r (f x k w) w → R (.ref r) H') :
    WOwn.rOwnI C (spSh C f) E (.ref a) (.int k) H R := WOwn.g_ownI ha.ins ⟨a, x, k, w, rfl, hx, h0, h1, ha, q⟩
theorem g_eqR {C : Addr} {H : Hp} {E : XK} {a b : Addr} {x y w u : Int} {R : V → Hp → Prop} (ha : WA C H a x w) (hb : WA C H b y u) (q : R (.bl (decide (x = y) && decide (w = u))) H) :
    WOwn.rOwn C (spEqW C) E (.ref a) (.ref b) H R := WOwn.g_own ha.ins hb.ins ⟨a, x, w, .ref b, rfl, ha, .inl ⟨b, y, u, rfl, hb, q⟩⟩
theorem g_eqOR {C : Addr} {H : Hp} {E : XK} {a : Addr} {x w : Int} {o : V} {T : String} {R : V → Hp → Prop} (ha : WA C H a x w) (ho : WOwn.Oth H o T) (q : R (.bl false) H) : WOwn.rEqO C (spEqW C) E (.ref a) o H R := WOwn.g_eqO ha.ins ho ⟨a, x, w, o, rfl, ha, .inr ⟨T, ho, q⟩⟩
theorem g_eqRR {C : Addr} {H : Hp} {E : XK} {a : Addr} {x w : Int} {o : V} {T : String} {R : V → Hp → Prop} (ha : WA C H a x w) (hn : o ≠ .non) (ho : WOwn.Oth H o T) (q : R (.bl false) H) : WOwn.rEqR C (spEqW C) E o (.ref a) H R := WOwn.g_eqR ha.ins hn ho ⟨a, x, w, o, rfl, ha, .inr ⟨T, ho, q⟩⟩
theorem subadd_eq (a b c w : Int) : (a - b + c) % (1 * 2 ^ w.toNat) = fAdd (fSub a b w) c w := by unfold fAdd fSub; rw [Int.emod_add_emod]
theorem sub_self' (a w : Int) : (0 : Int) = fSub a a w := by unfold fSub; rw [Int.sub_self, Int.zero_emod]
theorem and_self' {a w : Int} (h : Wd a w) : a = fAnd a a w := by unfold fAnd; rw [bitAnd_pp h.c h.c, Nat.and_self]; have := h.c; omega
theorem or_self' {a w : Int} (h : Wd a w) : a = fOr a a w := by unfold fOr; rw [Bits.bitOr_pp h.c h.c, Nat.or_self]; have := h.c; omega
theorem xor_self' {a w : Int} (h : Wd a w) : 0 = fXor a a w := by unfold fXor; rw [Bits.bitXor_pp h.c h.c, Nat.xor_self]; rfl
theorem g_methW {C a : Addr} {H : Hp} {v w : Int} {m : Str} {R : Prop} (h : WA C H a v w) (hl : ([("value", V.int v), ("width", V.int w)] : List (Str × V)).lookup m = none) (r : R) : ∃ (a' dx' : Addr) (fs : List (Str × V)), V.ref a = .ref a' ∧ H a' = some (.ins C dx' fs) ∧ fs.lookup m = none ∧ R :=
  let ⟨dx, e⟩ := h; ⟨a, dx, _, rfl, e, hl, r⟩
theorem ne_int (a : Int) : (a != 0) = (!decide (V.int a = V.int 0)) := by
  by_cases h : a = 0
  · subst h; rfl
  · rw [decide_eq_false fun e => h (V.int.inj e)]; simp [h]
theorem eq_int (a b w : Int) : (decide (a = b) && decide (w = w)) = decide (V.int a = V.int b) := by
  rw [decide_eq_true (rfl : w = w), Bool.and_true]
  exact decide_eq_decide.mpr ⟨congrArg _, V.int.inj⟩
theorem f_rng2 {lo hi : Int} {g : TG} {tbd : TS} {D : Ends} {σ : L2.St} {H : Hp} (h : -(2 ^ 62) ≤ lo ∧ lo < 2 ^ 62 ∧ -(2 ^ 62) ≤ hi ∧ hi < 2 ^ 62) (Pv : Nat → L2.St → Hp → Prop) (h0 : Pv 0 σ H)
    (hs : ∀ i σ H, i < (hi - lo).toNat → Pv i σ H → g (.int (lo + i)) σ H fun σ2 H2 => tbd { D with nx := Pv (i + 1), ct := Pv (i + 1), bk := D.nx } σ2 H2) (hd : ∀ σ H, Pv (hi - lo).toNat σ H → D.nx σ H) :
    ∃ i j : Int, [V.int lo, V.int hi] = [.int i, .int j] ∧ (-(2 ^ 62) ≤ i ∧ i < 2 ^ 62 ∧ -(2 ^ 62) ≤ j ∧ j < 2 ^ 62) ∧ tForK g tbd D σ (Itr i (j - i).toNat) H := ⟨lo, hi, rfl, h, for_range Pv h0 hs hd⟩
local macro_rules | `(tactic| walk_at "shl") => `(tactic| (try (refine g_I (shl1 (by omega) (by omega)) ?_; walk_at "go")))
local macro_rules | `(tactic| walk_at "pos") => `(tactic| (try (refine g_I (pos1 _) ?_; walk_at "go")))
variable {P : Program} {w : World} {K : PySem.W.Frag} {mg : Str → Option Value} {base : Heap} {dA : Nat → Addr}
theorem ok__law_operators (T : Txt K mg dA) (c__law_is_word : C8.Cal P w K mg base 2 "_law_is_word" (spIsWord (dA 200)) []) (m_Word : C8.Mak P w K mg base 1 "Word" (dA 200) (spNew (dA 200)) []) (o_Word___add__ : WOwn.OpM P w K mg base CX0 3 (dA 200) (PySem.dunder Operator.Add.info.2) (spBin (dA 200) fAdd)) (o_Word___sub__ : WOwn.OpM P w K mg base CX0 3 (dA 200) (PySem.dunder Operator.Sub.info.2) (spBin (dA 200) fSub)) (o_Word___or__ : WOwn.OpM P w K mg base CX0 3 (dA 200) (PySem.dunder Operator.BitOr.info.2) (spBin (dA 200) fOr)) (o_Word___and__ : WOwn.OpM P w K mg base CX0 3 (dA 200) (PySem.dunder Operator.BitAnd.info.2) (spBin (dA 200) fAnd)) (o_Word___invert__ : WOwn.OpM P w K mg base CX0 3 (dA 200) "__invert__" (spUn (dA 200) fInv)) (o_Word___xor__ : WOwn.OpM P w K mg base CX0 3 (dA 200) (PySem.dunder Operator.BitXor.info.2) (spBin (dA 200) fXor)) (o_Word___neg__ : WOwn.OpM P w K mg base CX0 3 (dA 200) "__neg__" (spUn (dA 200) fNeg)) {f : Addr} {fd : FuncData} (F : Fun K "_law_operators" "_law_operators" s__law_operators f fd) : FnOk P w K mg base CX0 4 f fd ["a", "b", "width"] spTrue3 := by
  refine F.ok sc__law_operators (fun vs H Q E h => ?_) (fun cdv A outer s H vs Q E hr h => ?_)
  · obtain ⟨a, b, w, rfl, _⟩ := h
    rfl
  obtain ⟨a, b, w, rfl, ha, hb, q⟩ := h
  refine ⟨_, (pss_cons (ps_set (i := 3) sc__law_operators.nd rfl (.inl rfl) (C8.pe_mk m_Word hr (by decide) (by rfl) (pa_cons (pv 0) (pa_cons (pv 2) pa_nil))))
      (pss_cons (ps_set (i := 4) sc__law_operators.nd rfl (.inl rfl) (C8.pe_mk m_Word hr (by decide) (by rfl) (pa_cons (pv 1) (pa_cons (pv 2) pa_nil))))
      (pss_cons (ps_set (i := 5) sc__law_operators.nd rfl (.inl rfl) (pe_op op_shl pe_int (pv 2)))
      (pss_cons (ps_if (pt_not (pt_val (C8.pe_c c__law_is_word hr (by decide) (by rfl) (pa_cons (pe_op (WOwn.op_own (op := .Add) (E := E0) o_Word___add__ hr (by decide) pass0) (pv 3) (pv 4)) (pa_cons (pe_op op_mod (pe_callTy call_int1 (by rfl) T.b_int (by decide +kernel) (pa_cons (pe_op op_add (pv 0) (pv 1)) pa_nil)) (pv 5)) (pa_cons (pv 2) pa_nil)))))) (pss_one (ps_ret pe_bl)) pss_nil)
      (pss_cons (ps_if (pt_not (pt_val (C8.pe_c c__law_is_word hr (by decide) (by rfl) (pa_cons (pe_op (WOwn.op_own (op := .Sub) (E := E0) o_Word___sub__ hr (by decide) pass0) (pv 3) (pv 4)) (pa_cons (pe_op op_mod (pe_callTy call_int1 (by rfl) T.b_int (by decide +kernel) (pa_cons (pe_op op_sub (pv 0) (pv 1)) pa_nil)) (pv 5)) (pa_cons (pv 2) pa_nil)))))) (pss_one (ps_ret pe_bl)) pss_nil)
      (pss_cons (ps_if (PW.pt (pw_or (pt_not (pt_val (C8.pe_c c__law_is_word hr (by decide) (by rfl) (pa_cons (pe_op (WOwn.op_own (op := .BitAnd) (E := E0) o_Word___and__ hr (by decide) pass0) (pv 3) (pv 4)) (pa_cons (pe_op op_and (pv 0) (pv 1)) (pa_cons (pv 2) pa_nil)))))) (pw_or1 (pt_not (pt_val (C8.pe_c c__law_is_word hr (by decide) (by rfl) (pa_cons (pe_op (WOwn.op_own (op := .BitOr) (E := E0) o_Word___or__ hr (by decide) pass0) (pv 3) (pv 4)) (pa_cons (pe_op op_or (pv 0) (pv 1)) (pa_cons (pv 2) pa_nil))))))))) (pss_one (ps_ret pe_bl)) pss_nil)
      (pss_cons (ps_if (PW.pt (pw_or (pt_not (pt_val (C8.pe_c c__law_is_word hr (by decide) (by rfl) (pa_cons (pe_op (WOwn.op_own (op := .BitXor) (E := E0) o_Word___xor__ hr (by decide) pass0) (pv 3) (pv 4)) (pa_cons (pe_op op_xor (pv 0) (pv 1)) (pa_cons (pv 2) pa_nil)))))) (pw_or1 (pt_not (pt_val (C8.pe_c c__law_is_word hr (by decide) (by rfl) (pa_cons (pe_un (WOwn.un_invO (E := E0) o_Word___invert__ hr (by decide) pass0) (pv 3)) (pa_cons (pe_op op_sub (pe_op op_sub (pv 5) pe_int) (pv 0)) (pa_cons (pv 2) pa_nil))))))))) (pss_one (ps_ret pe_bl)) pss_nil)
      (pss_cons (ps_if (pt_not (pt_val (C8.pe_c c__law_is_word hr (by decide) (by rfl) (pa_cons (pe_un (WOwn.un_negO (E := E0) o_Word___neg__ hr (by decide) pass0) (pv 3)) (pa_cons (pe_op op_mod (pe_callTy call_int1 (by rfl) T.b_int (by decide +kernel) (pa_cons (pe_op op_sub pe_int (pv 0)) pa_nil)) (pv 5)) (pa_cons (pv 2) pa_nil)))))) (pss_one (ps_ret pe_bl)) pss_nil)
      (pss_cons (ps_if (pt_not (pt_val (C8.pe_c c__law_is_word hr (by decide) (by rfl) (pa_cons (pe_un (WOwn.un_negO (E := E0) o_Word___neg__ hr (by decide) pass0) (pv 4)) (pa_cons (pe_op op_mod (pe_callTy call_int1 (by rfl) T.b_int (by decide +kernel) (pa_cons (pe_op op_sub pe_int (pv 1)) pa_nil)) (pv 5)) (pa_cons (pv 2) pa_nil)))))) (pss_one (ps_ret pe_bl)) pss_nil)
      (pss_cons (ps_if (pt_not (pt_val (C8.pe_c c__law_is_word hr (by decide) (by rfl) (pa_cons (pe_op (WOwn.op_own (op := .Add) (E := E0) o_Word___add__ hr (by decide) pass0) (pe_op (WOwn.op_own (op := .Sub) (E := E0) o_Word___sub__ hr (by decide) pass0) (pv 3) (pv 4)) (pv 3)) (pa_cons (pe_op op_mod (pe_callTy call_int1 (by rfl) T.b_int (by decide +kernel) (pa_cons (pe_op op_add (pe_op op_sub (pv 0) (pv 1)) (pv 0)) pa_nil)) (pv 5)) (pa_cons (pv 2) pa_nil)))))) (pss_one (ps_ret pe_bl)) pss_nil)
      (pss_cons (ps_if (pt_not (pt_val (C8.pe_c c__law_is_word hr (by decide) (by rfl) (pa_cons (pe_op (WOwn.op_own (op := .BitAnd) (E := E0) o_Word___and__ hr (by decide) pass0) (pe_un (WOwn.un_invO (E := E0) o_Word___invert__ hr (by decide) pass0) (pe_op (WOwn.op_own (op := .BitXor) (E := E0) o_Word___xor__ hr (by decide) pass0) (pv 3) (pv 4))) (pv 4)) (pa_cons (pe_op op_and (pe_op op_sub (pe_op op_sub (pv 5) pe_int) (pe_op op_xor (pv 0) (pv 1))) (pv 1)) (pa_cons (pv 2) pa_nil)))))) (pss_one (ps_ret pe_bl)) pss_nil)
      (pss_one (ps_ret (pe_and (C8.pe_c c__law_is_word hr (by decide) (by rfl) (pa_cons (pv 3) (pa_cons (pv 0) (pa_cons (pv 2) pa_nil)))) (pe_one (C8.pe_c c__law_is_word hr (by decide) (by rfl) (pa_cons (pv 4) (pa_cons (pv 1) (pa_cons (pv 2) pa_nil))))))))))))))))))), ?_⟩
  rw [show (L2.start ["a", "b", "width", "one", "two", "room"] [.int a, .int b, .int w] : L2.St) = [some (.int a), some (.int b), some (.int w), none, none, none] from rfl]
  try simp only [WL.cxK]
  have h1 := ha.a
  have h2 := ha.b
  have hp := two_pos w.toNat
  walk_at "go"
  refine g_newR ha fun p H1 np s1 w1 => ?_
  walk_at "go"
  refine g_newR hb fun r H2 nr s2 w2 => ?_
  replace w1 := w1.same s2
  have s := s1.trans s2
  walk_at "go"
  walk_at "shl"
  refine g_ownR ha hb w1 w2 fun t1 G1 n1 e1 Wt1 => ?_
  replace w1 := w1.same e1
  replace w2 := w2.same e1
  replace s := s.trans e1
  walk_at "go"
  walk_at "pos"
  refine g_isWord Wt1 rfl rfl ?_
  walk_at "go"
  refine g_ownR ha hb w1 w2 fun t2 G2 n2 e2 Wt2 => ?_
  replace w1 := w1.same e2
  replace w2 := w2.same e2
  replace s := s.trans e2
  walk_at "go"
  walk_at "pos"
  refine g_isWord Wt2 rfl rfl ?_
  walk_at "go"
  refine g_ownR ha hb w1 w2 fun t3 G3 n3 e3 Wt3 => ?_
  replace w1 := w1.same e3
  replace w2 := w2.same e3
  replace s := s.trans e3
  walk_at "go"
  refine g_isWord Wt3 rfl rfl ?_
  walk_at "go"
  refine g_ownR ha hb w1 w2 fun t4 G4 n4 e4 Wt4 => ?_
  replace w1 := w1.same e4
  replace w2 := w2.same e4
  replace s := s.trans e4
  walk_at "go"
  refine g_isWord Wt4 rfl rfl ?_
  walk_at "go"
  refine g_ownR ha hb w1 w2 fun t5 G5 n5 e5 Wt5 => ?_
  replace w1 := w1.same e5
  replace w2 := w2.same e5
  replace s := s.trans e5
  walk_at "go"
  refine g_isWord Wt5 rfl rfl ?_
  walk_at "go"
  refine g_unR ha w1 fun t6 G6 n6 e6 Wt6 => ?_
  replace w1 := w1.same e6
  replace w2 := w2.same e6
  replace s := s.trans e6
  walk_at "go"
  refine g_isWord Wt6 rfl rfl ?_
  walk_at "go"
  refine g_unR ha w1 fun t7 G7 n7 e7 Wt7 => ?_
  replace w1 := w1.same e7
  replace w2 := w2.same e7
  replace s := s.trans e7
  walk_at "go"
  walk_at "pos"
  refine g_isWord Wt7 rfl rfl ?_
  walk_at "go"
  refine g_unR hb w2 fun t8 G8 n8 e8 Wt8 => ?_
  replace w1 := w1.same e8
  replace w2 := w2.same e8
  replace s := s.trans e8
  walk_at "go"
  walk_at "pos"
  refine g_isWord Wt8 rfl rfl ?_
  walk_at "go"
  refine g_ownR ha hb w1 w2 fun t9 G9 n9 e9 Wt9 => ?_
  replace w1 := w1.same e9
  replace w2 := w2.same e9
  replace s := s.trans e9
  walk_at "go"
  refine g_ownR (mod_wd h1 h2) ha Wt9 w1 fun t10 G10 n10 e10 Wt10 => ?_
  replace w1 := w1.same e10
  replace w2 := w2.same e10
  replace s := s.trans e10
  walk_at "go"
  walk_at "pos"
  refine g_isWord Wt10 (subadd_eq a b a w) rfl ?_
  walk_at "go"
  refine g_ownR ha hb w1 w2 fun t11 G11 n11 e11 Wt11 => ?_
  replace w1 := w1.same e11
  replace w2 := w2.same e11
  replace s := s.trans e11
  walk_at "go"
  refine g_unR (xor_wd ha hb) Wt11 fun t12 G12 n12 e12 Wt12 => ?_
  replace w1 := w1.same e12
  replace w2 := w2.same e12
  replace s := s.trans e12
  walk_at "go"
  refine g_ownR (inv_wd (xor_wd ha hb)) hb Wt12 w2 fun t13 G13 n13 e13 Wt13 => ?_
  replace w1 := w1.same e13
  replace w2 := w2.same e13
  replace s := s.trans e13
  walk_at "go"
  refine g_isWord Wt13 rfl rfl ?_
  walk_at "go"
  refine g_isWord w1 rfl rfl ?_
  walk_at "go"
  exact g_isWord w2 rfl rfl (q _ s)
theorem ok__law_alone (T : Txt K mg dA) (c__law_is_word : C8.Cal P w K mg base 2 "_law_is_word" (spIsWord (dA 200)) []) (c__law_truth : C8.Cal P w K mg base 1 "_law_truth" spTruth []) (m_Word : C8.Mak P w K mg base 1 "Word" (dA 200) (spNew (dA 200)) []) (o_Word___add__ : WOwn.OpM P w K mg base CX0 3 (dA 200) (PySem.dunder Operator.Add.info.2) (spBin (dA 200) fAdd)) (o_Word___sub__ : WOwn.OpM P w K mg base CX0 3 (dA 200) (PySem.dunder Operator.Sub.info.2) (spBin (dA 200) fSub)) (o_Word___or__ : WOwn.OpM P w K mg base CX0 3 (dA 200) (PySem.dunder Operator.BitOr.info.2) (spBin (dA 200) fOr)) (o_Word___and__ : WOwn.OpM P w K mg base CX0 3 (dA 200) (PySem.dunder Operator.BitAnd.info.2) (spBin (dA 200) fAnd)) (c_Word_below : C8.Met P w K mg base 2 (dA 200) "below" (spBelow (dA 200)) []) (o_Word___xor__ : WOwn.OpM P w K mg base CX0 3 (dA 200) (PySem.dunder Operator.BitXor.info.2) (spBin (dA 200) fXor)) (o_Word___bool__ : WOwn.OpM P w K mg base CX0 1 (dA 200) "__bool__" (spBoolW (dA 200))) (o_Word___eq__ : WOwn.OpM P w K mg base CX0 1 (dA 200) "__eq__" (spEqW (dA 200))) {f : Addr} {fd : FuncData} (F : Fun K "_law_alone" "_law_alone" s__law_alone f fd) : FnOk P w K mg base CX0 4 f fd ["a", "width"] spTrue2 := by
  refine F.ok sc__law_alone (fun vs H Q E h => ?_) (fun cdv A outer s H vs Q E hr h => ?_)
  · obtain ⟨a, w, rfl, _⟩ := h
    rfl
  obtain ⟨a, w, rfl, ha, q⟩ := h
  refine ⟨_, (pss_cons (ps_set (i := 2) sc__law_alone.nd rfl (.inl rfl) (C8.pe_mk m_Word hr (by decide) (by rfl) (pa_cons (pv 0) (pa_cons (pv 1) pa_nil))))
      (pss_cons (ps_if (pt_not (pt_val (C8.pe_c c__law_is_word hr (by decide) (by rfl) (pa_cons (pe_op (WOwn.op_own (op := .Add) (E := E0) o_Word___add__ hr (by decide) pass0) (pv 2) (pv 2)) (pa_cons (pe_op op_mod (pe_callTy call_int1 (by rfl) T.b_int (by decide +kernel) (pa_cons (pe_op op_add (pv 0) (pv 0)) pa_nil)) (pe_op op_shl pe_int (pv 1))) (pa_cons (pv 1) pa_nil)))))) (pss_one (ps_ret pe_bl)) pss_nil)
      (pss_cons (ps_if (pt_not (pt_val (C8.pe_c c__law_is_word hr (by decide) (by rfl) (pa_cons (pe_op (WOwn.op_own (op := .Sub) (E := E0) o_Word___sub__ hr (by decide) pass0) (pv 2) (pv 2)) (pa_cons pe_int (pa_cons (pv 1) pa_nil)))))) (pss_one (ps_ret pe_bl)) pss_nil)
      (pss_cons (ps_if (PW.pt (pw_or (pt_not (pt_val (C8.pe_c c__law_is_word hr (by decide) (by rfl) (pa_cons (pe_op (WOwn.op_own (op := .BitAnd) (E := E0) o_Word___and__ hr (by decide) pass0) (pv 2) (pv 2)) (pa_cons (pv 0) (pa_cons (pv 1) pa_nil)))))) (pw_or1 (pt_not (pt_val (C8.pe_c c__law_is_word hr (by decide) (by rfl) (pa_cons (pe_op (WOwn.op_own (op := .BitOr) (E := E0) o_Word___or__ hr (by decide) pass0) (pv 2) (pv 2)) (pa_cons (pv 0) (pa_cons (pv 1) pa_nil))))))))) (pss_one (ps_ret pe_bl)) pss_nil)
      (pss_cons (ps_if (PW.pt (pw_or (pt_not (pt_val (C8.pe_c c__law_is_word hr (by decide) (by rfl) (pa_cons (pe_op (WOwn.op_own (op := .BitXor) (E := E0) o_Word___xor__ hr (by decide) pass0) (pv 2) (pv 2)) (pa_cons pe_int (pa_cons (pv 1) pa_nil)))))) (pw_or1 (pt_not (pt_val (C8.pe_c c__law_truth hr (by decide) (by rfl) (pa_cons (C8.pe_mt c_Word_below hr (by decide) (pv 2) (pa_cons (pv 2) pa_nil)) (pa_cons pe_bl pa_nil)))))))) (pss_one (ps_ret pe_bl)) pss_nil)
      (pss_cons (ps_if (PW.pt (pw_or (pt_not (pt_val (C8.pe_c c__law_truth hr (by decide) (by rfl) (pa_cons (pe_cmpR (WOwn.op_eqS (E := E0) o_Word___eq__ hr (by decide) pass0) (pv 2) (pv 2) (nomark _)) (pa_cons pe_bl pa_nil))))) (pw_or1 (pt_not (pt_val (C8.pe_c c__law_truth hr (by decide) (by rfl) (pa_cons (pe_callTy (WOwn.call_boolO (E := E0) o_Word___bool__ hr (by decide) pass0) (by rfl) T.b_bool (by decide +kernel) (pa_cons (pv 2) pa_nil)) (pa_cons (pe_cmpR op_ne (pv 0) pe_int (nomark _)) pa_nil)))))))) (pss_one (ps_ret pe_bl)) pss_nil)
      (pss_one (ps_ret (C8.pe_c c__law_is_word hr (by decide) (by rfl) (pa_cons (pv 2) (pa_cons (pv 0) (pa_cons (pv 1) pa_nil)))))))))))), ?_⟩
  rw [show (L2.start ["a", "width", "one"] [.int a, .int w] : L2.St) = [some (.int a), some (.int w), none] from rfl]
  try simp only [WL.cxK]
  have h1 := ha.a
  have h2 := ha.b
  have hp := two_pos w.toNat
  walk_at "go"
  refine g_newR ha fun p H1 np s1 w1 => ?_
  walk_at "go"
  have s := s1
  refine g_ownR ha ha w1 w1 fun t1 G1 n1 e1 Wt1 => ?_
  replace w1 := w1.same e1
  replace s := s.trans e1
  walk_at "go"
  walk_at "shl"
  walk_at "pos"
  refine g_isWord Wt1 rfl rfl ?_
  walk_at "go"
  refine g_ownR ha ha w1 w1 fun t2 G2 n2 e2 Wt2 => ?_
  replace w1 := w1.same e2
  replace s := s.trans e2
  walk_at "go"
  refine g_isWord Wt2 (sub_self' a w) rfl ?_
  walk_at "go"
  refine g_ownR ha ha w1 w1 fun t3 G3 n3 e3 Wt3 => ?_
  replace w1 := w1.same e3
  replace s := s.trans e3
  walk_at "go"
  refine g_isWord Wt3 (and_self' ha) rfl ?_
  walk_at "go"
  refine g_ownR ha ha w1 w1 fun t4 G4 n4 e4 Wt4 => ?_
  replace w1 := w1.same e4
  replace s := s.trans e4
  walk_at "go"
  refine g_isWord Wt4 (or_self' ha) rfl ?_
  walk_at "go"
  refine g_ownR ha ha w1 w1 fun t5 G5 n5 e5 Wt5 => ?_
  replace w1 := w1.same e5
  replace s := s.trans e5
  walk_at "go"
  refine g_isWord Wt5 (xor_self' ha) rfl ?_
  walk_at "go"
  refine g_methW w1 rfl ?_
  walk_at "go"
  refine ⟨p, p, a, a, w, rfl, w1, w1, ?_⟩
  walk_at "go"
  refine g_truth (by simp) ?_
  walk_at "go"
  refine g_eqR w1 w1 ?_
  walk_at "go"
  refine g_truth (by simp) ?_
  walk_at "go"
  refine WOwn.g_ownB w1.ins ⟨p, a, w, rfl, w1, _, rfl, ?_⟩
  walk_at "go"
  refine g_truth (ne_int a) ?_
  walk_at "go"
  exact g_isWord w1 rfl rfl (q _ s)
end K12
set_option Elab.async false
set_option linter.all false
set_option maxRecDepth 100000
set_option maxHeartbeats 4000000
namespace K12
open PySem PySem.Spec PyProof.Rows L2 WL
local macro_rules | `(tactic| walk_at "lk") => `(tactic| first
  | exact upd_same
  | assumption
  | (rw [upd_ne (by assumption)]; first | exact upd_same | assumption | (rw [upd_ne (by assumption)]; first | exact upd_same | assumption | (rw [upd_ne (by assumption)]; first | exact upd_same | assumption))))
local macro_rules | `(tactic| walk_at "go1") => `(tactic| first
  | (with_reducible refine g_seq ?_)
  | (with_reducible refine g_asg ?_)
  | (with_reducible refine g_name ?_)
  | (with_reducible refine g_sub ?_)
  | ((with_reducible refine' g_var ?gv ?_); (case gv => exact rfl))
  | (with_reducible refine g_c ?_)
  | (with_reducible refine g_op ?_)
  | (with_reducible refine g_un ?_)
  | (with_reducible refine g_I0 ?_)
  | ((with_reducible refine g_I ?gc ?_); (case gc => first | assumption | decide | (show (0 : Int) < _; omega) | exact Or.inr ⟨by omega, by omega⟩ | exact Or.inl ⟨by omega, by omega⟩ | exact ⟨by omega, by omega⟩))
  | (with_reducible refine iteT ?_)
  | (with_reducible refine iteF ?_)
  | (with_reducible refine iteNT ?_)
  | (with_reducible refine iteNF ?_)
  | (with_reducible refine g_andV ?_)
  | (with_reducible refine g_orV ?_)
  | ((with_reducible refine' g_lenS (by assumption) ?_))
  | ((with_reducible refine' g_lenS (SqL.of (by walk_at "lk")) ?_))
  | (with_reducible refine g_U ?_)
  | ((with_reducible refine g_eq ?gs ?_); (case gs => rfl))
  | ((with_reducible refine g_ne ?gs ?_); (case gs => rfl))
  | (with_reducible refine g_drop ?_)
  | (with_reducible refine g_ret ?_)
  | (with_reducible refine g_next ?_)
  | (with_reducible refine g_ifS ?_)
  | (with_reducible refine g_ifE ?_)
  | (with_reducible refine g_test ?_)
  | (with_reducible refine g_tb ?_)
  | (with_reducible refine g_bl ?_)
  | (with_reducible refine g_not ?_)
  | (with_reducible refine g_and ?_)
  | (with_reducible refine g_or ?_)
  | (with_reducible refine g_nil ?_)
  | (with_reducible refine g_cons ?_)
  | (with_reducible refine g_cb ?_)
  | (with_reducible refine g_call ?_)
  | (with_reducible refine g_int ?_)
  | (with_reducible refine g_two ?_)
  | ((with_reducible refine g_lenStr ?gz ?_); (case gz => first | assumption | exact sz_le (by omega)))
  | (with_reducible refine g_m1 ?_)
  | (with_reducible refine g_isS ?_)
  | (with_reducible refine g_nn ?_)
  | (with_reducible refine g_yes ?_)
  | (with_reducible refine g_for ?_)
  | (with_reducible refine g_ckw ?_)
  | (with_reducible refine g_chain ?_)
  | (with_reducible refine g_gcons ?_)
  | (with_reducible refine g_gnil ?_)
  | (with_reducible refine g_notV ?_)
  | (with_reducible refine g_iZip ?_)
  | (with_reducible refine g_lc ?_)
  | (with_reducible refine g_lc2 ?_)
  | (with_reducible refine g_iList ?_)
  | (with_reducible refine g_iRng1 ?_)
  | (with_reducible refine g_iRng2 ?_)
  | (with_reducible refine g_sl ?_)
  | (with_reducible refine g_noPart ?_)
  | (with_reducible refine g_part ?_)
  | (with_reducible refine g_ex1 ?_)
  | (with_reducible refine g_bm ?_)
  | ((with_reducible refine' g_tyL (by walk_at "lk") ?_))
  | ((with_reducible refine' g_aug ?gv ?_); (case gv => exact rfl))
  | (with_reducible refine g_ipI ?_)
  | (with_reducible refine g_turn ?_)
  | (with_reducible refine g_brk ?_)
  | (with_reducible refine g_cont ?_)
  | (with_reducible refine g_sign ?_)
  | (with_reducible refine g_lst ?_)
  | (with_reducible refine g_tup ?_)
  | ((with_reducible refine' g_ixL (by assumption) ?ga ?_); (case ga => assumption))
  | ((with_reducible refine' g_ixL (SqL.of (by walk_at "lk")) ?ga ?_); (case ga => first | exact rfl | assumption))
  | ((with_reducible refine' g_ixT (SqT.of (by walk_at "lk")) ?ga ?_); (case ga => first | exact rfl | assumption))
  | ((with_reducible refine' g_lenT (SqT.of (by walk_at "lk")) ?_))
  | ((with_reducible refine' g_isiS (b := true) ?ga ?_); (case ga => decide +kernel))
  | ((with_reducible refine' g_isiS (b := false) ?ga ?_); (case ga => decide +kernel))
  | ((with_reducible refine' g_isiI (b := true) ?ga ?_); (case ga => decide +kernel))
  | ((with_reducible refine' g_isiI (b := false) ?ga ?_); (case ga => decide +kernel))
  | ((with_reducible refine' g_setL2 ?ga ?gb ?_); (case ga => exact rfl); (case gb => exact rfl))
  | ((with_reducible refine' g_setL (by walk_at "lk") ?ga ?gb ?_); (case ga => exact rfl); (case gb => exact rfl)))
local macro_rules | `(tactic| walk_at "go") => `(tactic| ((repeat walk_at "go1"); try dsimp only [List.set, List.cons_append, List.nil_append]))
local macro_rules | `(tactic| walk_at "go1") => `(tactic| first
  | (with_reducible refine WOwn.g_fl ?_)
  | (with_reducible refine WOwn.g_sfl ?_)
  | (with_reducible refine WOwn.g_make ?_)
  | (with_reducible refine WOwn.g_meth ?_)
  | (with_reducible refine WOwn.g_sm ?_)
  | (with_reducible refine WOwn.g_cv ?_))
local macro_rules | `(tactic| walk_at "shl") => `(tactic| (try (refine g_I (shl1 (by omega) (by omega)) ?_; walk_at "go")))
local macro_rules | `(tactic| walk_at "pos") => `(tactic| (try (refine g_I (pos1 _) ?_; walk_at "go")))
theorem f_rng3 {lo hi : Int} {g : TG} {tbd : TS} {D : Ends} {σ : L2.St} {H : Hp} (h : -(2 ^ 62) ≤ lo ∧ lo < 2 ^ 62 ∧ -(2 ^ 62) ≤ hi ∧ hi < 2 ^ 62) (Pv : Nat → L2.St → Hp → Prop) (h0 : Pv 0 σ H)
    (hs : ∀ i σ H, i < (hi - lo).toNat → Pv i σ H → g (.int (lo + i)) σ H fun σ2 H2 => tbd { D with nx := Pv (i + 1), ct := Pv (i + 1), bk := D.nx } σ2 H2) (hd : ∀ σ H, Pv (hi - lo).toNat σ H → D.nx σ H) :
    (-(2 ^ 62) ≤ lo ∧ lo < 2 ^ 62 ∧ -(2 ^ 62) ≤ hi ∧ hi < 2 ^ 62) ∧ tForK g tbd D σ (Itr lo (hi - lo).toNat) H := ⟨h, for_range Pv h0 hs hd⟩
theorem small_log {a w : Int} (h : Wd a w) : a.natAbs.log2 < 1920 := by
  by_cases h0 : a.natAbs = 0
  · rw [h0]; decide
  · have h1 := wd_small h
    have h2 := h.c
    have : a.natAbs.log2 < 16 := (Nat.log2_lt h0).mpr (by omega)
    omega
variable {P : Program} {w : World} {K : PySem.W.Frag} {mg : Str → Option Value} {base : Heap} {dA : Nat → Addr}
theorem ok__law_compared (T : Txt K mg dA) (c__law_truth : C8.Cal P w K mg base 1 "_law_truth" spTruth []) (c__law_is_word : C8.Cal P w K mg base 2 "_law_is_word" (spIsWord (dA 200)) []) (m_Word : C8.Mak P w K mg base 1 "Word" (dA 200) (spNew (dA 200)) []) (c_Word_below : C8.Met P w K mg base 2 (dA 200) "below" (spBelow (dA 200)) []) (o_Word___eq__ : WOwn.OpM P w K mg base CX0 1 (dA 200) "__eq__" (spEqW (dA 200))) {f : Addr} {fd : FuncData} (F : Fun K "_law_compared" "_law_compared" s__law_compared f fd) : FnOk P w K mg base CX0 3 f fd ["a", "b", "width"] spTrue3 := by
  refine F.ok sc__law_compared (fun vs H Q E h => ?_) (fun cdv A outer s H vs Q E hr h => ?_)
  · obtain ⟨a, b, w, rfl, _⟩ := h
    rfl
  obtain ⟨a, b, w, rfl, ha, hb, q⟩ := h
  refine ⟨_, (pss_cons (ps_set (i := 3) sc__law_compared.nd rfl (.inl rfl) (C8.pe_mk m_Word hr (by decide) (by rfl) (pa_cons (pv 0) (pa_cons (pv 2) pa_nil))))
      (pss_cons (ps_set (i := 4) sc__law_compared.nd rfl (.inl rfl) (C8.pe_mk m_Word hr (by decide) (by rfl) (pa_cons (pv 1) (pa_cons (pv 2) pa_nil))))
      (pss_cons (ps_if (PW.pt (pw_or (pt_not (pt_val (C8.pe_c c__law_truth hr (by decide) (by rfl) (pa_cons (C8.pe_mt c_Word_below hr (by decide) (pv 3) (pa_cons (pv 4) pa_nil)) (pa_cons (pe_cmpR op_lt (pv 0) (pv 1) (nomark _)) pa_nil))))) (pw_or1 (pt_not (pt_val (C8.pe_c c__law_truth hr (by decide) (by rfl) (pa_cons (C8.pe_mt c_Word_below hr (by decide) (pv 4) (pa_cons (pv 3) pa_nil)) (pa_cons (pe_cmpR op_lt (pv 1) (pv 0) (nomark _)) pa_nil)))))))) (pss_one (ps_ret pe_bl)) pss_nil)
      (pss_cons (ps_if (PW.pt (pw_or (pt_not (pt_val (C8.pe_c c__law_truth hr (by decide) (by rfl) (pa_cons (pe_cmpR (WOwn.op_eqS (E := E0) o_Word___eq__ hr (by decide) pass0) (pv 3) (pv 4) (nomark _)) (pa_cons (pe_cmpR op_eq (pv 0) (pv 1) (nomark _)) pa_nil))))) (pw_or1 (pt_not (pt_val (C8.pe_c c__law_truth hr (by decide) (by rfl) (pa_cons (pe_cmpR (WOwn.op_eqS (E := E0) o_Word___eq__ hr (by decide) pass0) (pv 3) (C8.pe_mk m_Word hr (by decide) (by rfl) (pa_cons (pv 0) (pa_cons (pv 2) pa_nil))) (nomark _)) (pa_cons pe_bl pa_nil)))))))) (pss_one (ps_ret pe_bl)) pss_nil)
      (pss_cons (ps_for PassesOwn.never rfl (pi_range2 (by rfl) T.b_range (pa_cons pe_int (pa_cons pe_int pa_nil))) (pg_name (i := 5) sc__law_compared.nd rfl (.inl rfl)) (pss_cons (ps_if (PW.pt (pw_and (pt_cmpR op_lt (pv 0) (pe_op op_shl pe_int (pv 5)) (nomark _)) (pw_and1 (pt_not (pt_val (C8.pe_c c__law_truth hr (by decide) (by rfl) (pa_cons (pe_cmpR (WOwn.op_eqS (E := E0) o_Word___eq__ hr (by decide) pass0) (C8.pe_mk m_Word hr (by decide) (by rfl) (pa_cons (pv 0) (pa_cons (pv 5) pa_nil))) (pv 3) (nomark _)) (pa_cons (pe_cmpR op_eq (pv 5) (pv 2) (nomark _)) pa_nil)))))))) (pss_one (ps_ret pe_bl)) pss_nil)
      (pss_one (ps_if (PW.pt (pw_and (pt_cmpR op_lt (pv 1) (pe_op op_shl pe_int (pv 5)) (nomark _)) (pw_and1 (pt_not (pt_val (C8.pe_c c__law_truth hr (by decide) (by rfl) (pa_cons (pe_cmpR (WOwn.op_eqS (E := E0) o_Word___eq__ hr (by decide) pass0) (pv 3) (C8.pe_mk m_Word hr (by decide) (by rfl) (pa_cons (pv 1) (pa_cons (pv 5) pa_nil))) (nomark _)) (pa_cons (pe_and (pe_cmpR op_eq (pv 5) (pv 2) (nomark _)) (pe_one (pe_cmpR op_eq (pv 0) (pv 1) (nomark _)))) pa_nil)))))))) (pss_one (ps_ret pe_bl)) pss_nil))))
      (pss_cons (ps_set (i := 6) sc__law_compared.nd rfl (.inl rfl) pe_non)
      (pss_cons (ps_set (i := 7) sc__law_compared.nd rfl (.inl rfl) (pe_lst (pa_cons (pv 0) (pa_cons (pv 2) (pa_cons (pe_tup (pa_cons (pv 0) (pa_cons (pv 2) pa_nil))) (pa_cons (pe_lst (pa_cons (pv 0) (pa_cons (pv 2) pa_nil))) (pa_cons (pe_disp (pps_cons pe_str (pv 0) (pps_cons pe_str (pv 2) pps_nil)) (by rfl) (by rfl) (fun z => by cases z) (by decide)) pa_nil)))))))
      (pss_cons (ps_for PassesOwn.never rfl (kpi_list K (pe_op op_cat (pv 7) (pe_lst (pa_cons (pe_callTy call_str_int (by rfl) T.b_str (by decide +kernel) (pa_cons (pv 0) pa_nil)) (pa_cons pe_str (pa_cons (pe_tup pa_nil) (pa_cons pe_bl (pa_cons pe_bl pa_nil)))))))) (pg_name (i := 8) sc__law_compared.nd rfl (.inl rfl)) (pss_one (ps_if (PW.pt (pw_or (pt_not (pt_val (C8.pe_c c__law_truth hr (by decide) (by rfl) (pa_cons (pe_cmpR (WOwn.op_eqO (E := E0) o_Word___eq__ T.ek_Word hr (by decide) pass0) (pv 3) (pv 8) (nomark _)) (pa_cons pe_bl pa_nil))))) (pw_or1 (pt_not (pt_val (C8.pe_c c__law_truth hr (by decide) (by rfl) (pa_cons (pe_cmpR (WOwn.op_eqR (E := E0) o_Word___eq__ T.ek_Word hr (by decide) pass0) (pv 8) (pv 3) (nomark _)) (pa_cons pe_bl pa_nil)))))))) (pss_one (ps_ret pe_bl)) pss_nil)))
      (pss_cons (ps_if (pt_not (pt_val (C8.pe_c c__law_truth hr (by decide) (by rfl) (pa_cons (pe_cmpR (WOwn.op_eqO (E := E0) o_Word___eq__ T.ek_Word hr (by decide) pass0) (pv 3) (pv 6) (nomark _)) (pa_cons pe_bl pa_nil))))) (pss_one (ps_ret pe_bl)) pss_nil)
      (pss_one (ps_ret (pe_and (C8.pe_c c__law_is_word hr (by decide) (by rfl) (pa_cons (pv 3) (pa_cons (pv 0) (pa_cons (pv 2) pa_nil)))) (pe_one (C8.pe_c c__law_is_word hr (by decide) (by rfl) (pa_cons (pv 4) (pa_cons (pv 1) (pa_cons (pv 2) pa_nil))))))))))))))))), ?_⟩
  rw [show (L2.start ["a", "b", "width", "one", "two", "wide", "nothing", "strange", "other"] [.int a, .int b, .int w] : L2.St) = [some (.int a), some (.int b), some (.int w), none, none, none, none, none, none] from rfl]
  try simp only [WL.cxK]
  have h1 := ha.a
  have h2 := ha.b
  have hp := two_pos w.toNat
  walk_at "go"
  refine g_newR ha fun p H1 np s1 w1 => ?_
  walk_at "go"
  refine g_newR hb fun r H2 nr s2 w2 => ?_
  replace w1 := w1.same s2
  have s := s1.trans s2
  walk_at "go"
  refine g_methW w1 rfl ?_
  walk_at "go"
  refine ⟨p, r, a, b, w, rfl, w1, w2, ?_⟩
  walk_at "go"
  refine g_truth rfl ?_
  walk_at "go"
  refine g_methW w2 rfl ?_
  walk_at "go"
  refine ⟨r, p, b, a, w, rfl, w2, w1, ?_⟩
  walk_at "go"
  refine g_truth rfl ?_
  walk_at "go"
  refine g_eqR w1 w2 ?_
  walk_at "go"
  refine g_truth (eq_int a b w) ?_
  walk_at "go"
  refine g_newR ha fun t G n e wt => ?_
  replace w1 := w1.same e
  replace w2 := w2.same e
  replace s := s.trans e
  walk_at "go"
  refine g_eqR w1 wt ?_
  walk_at "go"
  refine g_truth (by simp) ?_
  walk_at "go"
  refine f_rng3 (lo := 1) (hi := 17) (by decide) (fun i σ' H' => ∃ y, σ' = [some (.int a), some (.int b), some (.int w), some (.ref p), some (.ref r), y, none, none, none] ∧ Same H H' ∧ WA (dA 200) H' p a w ∧ WA (dA 200) H' r b w) ⟨_, rfl, s, w1, w2⟩ (fun i σ' H' hi hP => ?_) (fun σ' H' hP => ?_)
  · obtain ⟨y, rfl, s, w1, w2⟩ := hP
    have hi2 : i < 16 := hi
    clear hi
    walk_at "go"
    walk_at "shl"
    refine g_ite (fun e => ?_) (fun e => ?_)
    · walk_at "go"
      have hwa : Wd a (1 + (i : Int)) := ⟨by omega, by omega, ha.c, by rw [Int.one_mul] at e; exact e⟩
      refine g_newR hwa fun t G n e wt => ?_
      replace w1 := w1.same e
      replace w2 := w2.same e
      replace s := s.trans e
      walk_at "go"
      refine g_eqR wt w1 ?_
      walk_at "go"
      refine g_truth (by simp [V.int.injEq]) ?_
      walk_at "go"
      walk_at "shl"
      refine g_ite (fun e => ?_) (fun e => ?_)
      · walk_at "go"
        have hwb : Wd b (1 + (i : Int)) := ⟨by omega, by omega, hb.c, by rw [Int.one_mul] at e; exact e⟩
        refine g_newR hwb fun t G n e wt => ?_
        replace w1 := w1.same e
        replace w2 := w2.same e
        replace s := s.trans e
        walk_at "go"
        refine g_eqR w1 wt ?_
        walk_at "go"
        refine g_iteI (fun e => ?_) (fun e => ?_)
        · walk_at "go"
          refine g_truth (by rw [show decide (w = 1 + (i : Int)) = true from decide_eq_true e.symm]; simp [V.int.injEq]) ?_
          walk_at "go"
          exact ⟨_, rfl, s, w1, w2⟩
        · walk_at "go"
          refine g_truth (by rw [show decide (w = 1 + (i : Int)) = false from decide_eq_false fun h => e h.symm]; simp) ?_
          walk_at "go"
          exact ⟨_, rfl, s, w1, w2⟩
      · walk_at "go"
        exact ⟨_, rfl, s, w1, w2⟩
    · walk_at "go"
      walk_at "shl"
      refine g_ite (fun e => ?_) (fun e => ?_)
      · walk_at "go"
        have hwb : Wd b (1 + (i : Int)) := ⟨by omega, by omega, hb.c, by rw [Int.one_mul] at e; exact e⟩
        refine g_newR hwb fun t G n e wt => ?_
        replace w1 := w1.same e
        replace w2 := w2.same e
        replace s := s.trans e
        walk_at "go"
        refine g_eqR w1 wt ?_
        walk_at "go"
        refine g_iteI (fun e => ?_) (fun e => ?_)
        · walk_at "go"
          refine g_truth (by rw [show decide (w = 1 + (i : Int)) = true from decide_eq_true e.symm]; simp [V.int.injEq]) ?_
          walk_at "go"
          exact ⟨_, rfl, s, w1, w2⟩
        · walk_at "go"
          refine g_truth (by rw [show decide (w = 1 + (i : Int)) = false from decide_eq_false fun h => e h.symm]; simp) ?_
          walk_at "go"
          exact ⟨_, rfl, s, w1, w2⟩
      · walk_at "go"
        exact ⟨_, rfl, s, w1, w2⟩
  · obtain ⟨y, rfl, s, w1, w2⟩ := hP
    walk_at "go"
    refine ⟨sz_le (n := 2) (by decide), fun q1 n1 => ?_⟩
    walk_at "go"
    refine ⟨sz_le (n := 2) (by decide), fun q2 n2 => ?_⟩
    walk_at "go"
    intro q3 n3
    simp only [tPairs]
    walk_at "go"
    refine ⟨upd_same, [(.inr "value", .int a), (.inr "width", .int w)], rfl, by exact (by decide : (2 : Nat) ≤ 15), ?_⟩
    rw [upd_upd]
    walk_at "go"
    refine ⟨sz_le (n := 5) (by decide), fun q4 n4 => ?_⟩
    walk_at "go"
    refine ⟨a, rfl, small_log ha, ?_⟩
    walk_at "go"
    refine ⟨sz_le (n := 0) (by decide), fun q5 n5 => ?_⟩
    walk_at "go"
    refine ⟨sz_le (n := 5) (by decide), fun q6 n6 => ?_⟩
    walk_at "go"
    refine ⟨q4, q6, _, _, rfl, rfl, same_new n6 _ _ (same_new n5 _ _ upd_same), upd_same, sz_le (n := 10) (by decide), fun q7 n7 => ?_⟩
    walk_at "go"
    refine f_list (SqL.of upd_same) (fun i σ' H2 => ∃ y8, σ' = [some (.int a), some (.int b), some (.int w), some (.ref p), some (.ref r), y, some .non, some (.ref q4), y8] ∧ H2 q7 = some (.lst [.int a, .int w, .ref q1, .ref q2, .ref q3, .str (Str.ofString (toString a)), .str (Str.ofString ""), .ref q5, .bl true, .bl false]) ∧ H2 q1 = some (.tup [.int a, .int w]) ∧ H2 q2 = some (.lst [.int a, .int w]) ∧ (∃ kvs, H2 q3 = some (.dK kvs)) ∧ H2 q5 = some (.tup []) ∧ Same H' H2)
      ⟨none, rfl, upd_same, same_new n7 _ _ (same_new n6 _ _ (same_new n5 _ _ (same_new n4 _ _ (same_new n3 _ _ (same_new n2 _ _ upd_same))))), same_new n7 _ _ (same_new n6 _ _ (same_new n5 _ _ (same_new n4 _ _ (same_new n3 _ _ upd_same)))), ⟨_, same_new n7 _ _ (same_new n6 _ _ (same_new n5 _ _ (same_new n4 _ _ upd_same)))⟩, same_new n7 _ _ (same_new n6 _ _ upd_same), (same_new n1).trans ((same_new n2).trans ((same_new n3).trans ((same_new n4).trans ((same_new n5).trans ((same_new n6).trans (same_new n7))))))⟩
      (fun i σ' H2 _ ⟨_, _, e, _⟩ => SqL.of e) (fun i x σ' H2 hx hP => ?_) (fun σ' H2 hP => ?_)
    · obtain ⟨y8, rfl, o7, o1, o2, ⟨kvs, o3⟩, o5, sf⟩ := hP
      have w1 := w1.same sf
      have hall : ∀ o ∈ ([.int a, .int w, .ref q1, .ref q2, .ref q3, .str (Str.ofString (toString a)), .str (Str.ofString ""), .ref q5, .bl true, .bl false] : List V), o ≠ .non ∧ ∃ T, WOwn.Oth H2 o T := by
        intro o ho
        simp only [List.mem_cons, List.mem_nil_iff, or_false] at ho
        rcases ho with rfl | rfl | rfl | rfl | rfl | rfl | rfl | rfl | rfl | rfl
        · exact ⟨fun z => (by cases z), _, .int _⟩
        · exact ⟨fun z => (by cases z), _, .int _⟩
        · exact ⟨fun z => (by cases z), _, .tup o1⟩
        · exact ⟨fun z => (by cases z), _, .lst o2⟩
        · exact ⟨fun z => (by cases z), _, .dct o3⟩
        · exact ⟨fun z => (by cases z), _, .str _⟩
        · exact ⟨fun z => (by cases z), _, .str _⟩
        · exact ⟨fun z => (by cases z), _, .tup o5⟩
        · exact ⟨fun z => (by cases z), _, .bl _⟩
        · exact ⟨fun z => (by cases z), _, .bl _⟩
      obtain ⟨hn, U, ho⟩ := hall x (List.mem_of_getElem? hx)
      walk_at "go"
      refine g_eqOR w1 ho ?_
      walk_at "go"
      refine g_truth rfl ?_
      walk_at "go"
      refine g_eqRR w1 hn ho ?_
      walk_at "go"
      refine g_truth rfl ?_
      walk_at "go"
      exact ⟨_, rfl, o7, o1, o2, ⟨kvs, o3⟩, o5, sf⟩
    · obtain ⟨y8, rfl, o7, o1, o2, ⟨kvs, o3⟩, o5, sf⟩ := hP
      have w1 := w1.same sf
      have w2 := w2.same sf
      walk_at "go"
      refine g_eqOR w1 .non ?_
      walk_at "go"
      refine g_truth rfl ?_
      walk_at "go"
      refine g_isWord w1 rfl rfl ?_
      walk_at "go"
      exact g_isWord w2 rfl rfl (q _ (s.trans sf))
theorem ok__law_moves (T : Txt K mg dA) (c__law_is_word : C8.Cal P w K mg base 2 "_law_is_word" (spIsWord (dA 200)) []) (m_Word : C8.Mak P w K mg base 1 "Word" (dA 200) (spNew (dA 200)) []) (o_Word___lshift__ : WOwn.OpM P w K mg base CX0 3 (dA 200) (PySem.dunder Operator.LShift.info.2) (spSh (dA 200) fShl)) (o_Word___rshift__ : WOwn.OpM P w K mg base CX0 3 (dA 200) (PySem.dunder Operator.RShift.info.2) (spSh (dA 200) fShr)) (c_Word_part : C8.Met P w K mg base 3 (dA 200) "part" (spPart (dA 200)) []) {f : Addr} {fd : FuncData} (F : Fun K "_law_moves" "_law_moves" s__law_moves f fd) : FnOk P w K mg base CX0 4 f fd ["a", "width"] spTrue2 := by
  refine F.ok sc__law_moves (fun vs H Q E h => ?_) (fun cdv A outer s H vs Q E hr h => ?_)
  · obtain ⟨a, w, rfl, _⟩ := h
    rfl
  obtain ⟨a, w, rfl, ha, q⟩ := h
  refine ⟨_, (pss_cons (ps_set (i := 2) sc__law_moves.nd rfl (.inl rfl) (C8.pe_mk m_Word hr (by decide) (by rfl) (pa_cons (pv 0) (pa_cons (pv 1) pa_nil))))
      (pss_cons (ps_for PassesOwn.never rfl (pi_range1 (by rfl) T.b_range (pa_cons pe_int pa_nil)) (pg_name (i := 3) sc__law_moves.nd rfl (.inl rfl)) (pss_cons (ps_if (pt_not (pt_val (C8.pe_c c__law_is_word hr (by decide) (by rfl) (pa_cons (pe_op (WOwn.op_ownI (op := .LShift) (E := E0) o_Word___lshift__ T.oi_Word_LShift hr (by decide) pass0) (pv 2) (pv 3)) (pa_cons (pe_op op_mod (pe_callTy call_int1 (by rfl) T.b_int (by decide +kernel) (pa_cons (pe_op op_shl (pv 0) (pv 3)) pa_nil)) (pe_op op_shl pe_int (pv 1))) (pa_cons (pv 1) pa_nil)))))) (pss_one (ps_ret pe_bl)) pss_nil)
      (pss_one (ps_if (pt_not (pt_val (C8.pe_c c__law_is_word hr (by decide) (by rfl) (pa_cons (pe_op (WOwn.op_ownI (op := .RShift) (E := E0) o_Word___rshift__ T.oi_Word_RShift hr (by decide) pass0) (pv 2) (pv 3)) (pa_cons (pe_op op_shr (pv 0) (pv 3)) (pa_cons (pv 1) pa_nil)))))) (pss_one (ps_ret pe_bl)) pss_nil))))
      (pss_cons (ps_for PassesOwn.never rfl (pi_range1 (by rfl) T.b_range (pa_cons (pv 1) pa_nil)) (pg_name (i := 4) sc__law_moves.nd rfl (.inl rfl)) (pss_one (ps_for PassesOwn.never rfl (pi_range1 (by rfl) T.b_range (pa_cons (pe_op op_add (pv 4) pe_int) pa_nil)) (pg_name (i := 5) sc__law_moves.nd rfl (.inl rfl)) (pss_cons (ps_set (i := 6) sc__law_moves.nd rfl (.inl rfl) (pe_op op_add (pe_op op_sub (pv 4) (pv 5)) pe_int))
      (pss_one (ps_if (pt_not (pt_val (C8.pe_c c__law_is_word hr (by decide) (by rfl) (pa_cons (C8.pe_mt c_Word_part hr (by decide) (pv 2) (pa_cons (pv 4) (pa_cons (pv 5) pa_nil))) (pa_cons (pe_op op_mod (pe_callTy call_int1 (by rfl) T.b_int (by decide +kernel) (pa_cons (pe_op op_shr (pv 0) (pv 5)) pa_nil)) (pe_op op_shl pe_int (pv 6))) (pa_cons (pv 6) pa_nil)))))) (pss_one (ps_ret pe_bl)) pss_nil))))))
      (pss_one (ps_ret (C8.pe_c c__law_is_word hr (by decide) (by rfl) (pa_cons (pv 2) (pa_cons (pv 0) (pa_cons (pv 1) pa_nil))))))))), ?_⟩
  rw [show (L2.start ["a", "width", "one", "k", "high", "low", "wide"] [.int a, .int w] : L2.St) = [some (.int a), some (.int w), none, none, none, none, none] from rfl]
  try simp only [WL.cxK]
  have h1 := ha.a
  have h2 := ha.b
  have hp := two_pos w.toNat
  walk_at "go"
  refine g_newR ha fun p H1 np s1 w1 => ?_
  walk_at "go"
  have s := s1
  refine f_rng1 (by decide) (by decide) (fun i σ' H' => ∃ y, σ' = [some (.int a), some (.int w), some (.ref p), y, none, none, none] ∧ Same H H' ∧ WA (dA 200) H' p a w) ⟨_, rfl, s, w1⟩ (fun i σ' H' hi hP => ?_) (fun σ' H' hP => ?_)
  · obtain ⟨y, rfl, s, w1⟩ := hP
    have hi2 : i < 17 := hi
    clear hi
    walk_at "go"
    refine g_shR ha (by omega) (by omega) w1 fun t G n e wt => ?_
    replace w1 := w1.same e
    replace s := s.trans e
    walk_at "go"
    refine g_I (shlx ha (by omega) (by omega)) ?_
    walk_at "go"
    walk_at "shl"
    walk_at "pos"
    refine g_isWord wt rfl rfl ?_
    walk_at "go"
    refine g_shR ha (by omega) (by omega) w1 fun t G n e wt => ?_
    replace w1 := w1.same e
    replace s := s.trans e
    walk_at "go"
    refine g_I (show (0 : Int) ≤ (i : Int) by omega) ?_
    walk_at "go"
    refine g_isWord wt rfl rfl ?_
    walk_at "go"
    exact ⟨_, rfl, s, w1⟩
  obtain ⟨y0, rfl, s, w1⟩ := hP
  walk_at "go"
  refine f_rng1 (by omega) (by omega) (fun i σ' H' => ∃ x y z, σ' = [some (.int a), some (.int w), some (.ref p), y0, x, y, z] ∧ Same H H' ∧ WA (dA 200) H' p a w) ⟨_, _, _, rfl, s, w1⟩ (fun i σ' H' hi hP => ?_) (fun σ' H' hP => ?_)
  · obtain ⟨x, y, z, rfl, s, w1⟩ := hP
    walk_at "go"
    refine f_rng1 (by omega) (by omega) (fun k σ' H' => ∃ y z, σ' = [some (.int a), some (.int w), some (.ref p), y0, some (.int (i : Int)), y, z] ∧ Same H H' ∧ WA (dA 200) H' p a w) ⟨_, _, rfl, s, w1⟩ (fun k σ' H' hk hP => ?_) (fun σ' H' hP => ?_)
    · obtain ⟨y, z, rfl, s, w1⟩ := hP
      walk_at "go"
      refine g_methW w1 rfl ?_
      walk_at "go"
      refine ⟨p, a, w, (i : Int), (k : Int), rfl, ha, by omega, by omega, by omega, w1, fun t G n e wt => ?_⟩
      replace w1 := w1.same e
      replace s := s.trans e
      walk_at "go"
      try (refine g_I (show (0 : Int) ≤ (k : Int) by omega) ?_; walk_at "go")
      walk_at "shl"
      walk_at "pos"
      refine g_isWord wt rfl rfl ?_
      walk_at "go"
      exact ⟨_, _, rfl, s, w1⟩
    · obtain ⟨y, z, rfl, s, w1⟩ := hP
      walk_at "go"
      exact ⟨_, _, _, rfl, s, w1⟩
  · obtain ⟨x, y, z, rfl, s, w1⟩ := hP
    walk_at "go"
    exact g_isWord w1 rfl rfl (q _ s)
end K12
set_option Elab.async false
set_option linter.all false
set_option maxRecDepth 100000
set_option maxHeartbeats 4000000
namespace K12
open PySem PySem.Spec PyProof.Rows L2 WL
local macro_rules | `(tactic| walk_at "lk") => `(tactic| first
  | exact upd_same
  | assumption
  | (rw [upd_ne (by assumption)]; first | exact upd_same | assumption | (rw [upd_ne (by assumption)]; first | exact upd_same | assumption | (rw [upd_ne (by assumption)]; first | exact upd_same | assumption))))
local macro_rules | `(tactic| walk_at "go1") => `(tactic| first
  | (with_reducible refine g_seq ?_)
  | (with_reducible refine g_asg ?_)
  | (with_reducible refine g_name ?_)
  | (with_reducible refine g_sub ?_)
  | ((with_reducible refine' g_var ?gv ?_); (case gv => exact rfl))
  | (with_reducible refine g_c ?_)
  | (with_reducible refine g_op ?_)
  | (with_reducible refine g_un ?_)
  | (with_reducible refine g_I0 ?_)
  | ((with_reducible refine g_I ?gc ?_); (case gc => first | assumption | decide | (show (0 : Int) < _; omega) | exact Or.inr ⟨by omega, by omega⟩ | exact Or.inl ⟨by omega, by omega⟩ | exact ⟨by omega, by omega⟩))
  | (with_reducible refine iteT ?_)
  | (with_reducible refine iteF ?_)
  | (with_reducible refine iteNT ?_)
  | (with_reducible refine iteNF ?_)
  | (with_reducible refine g_andV ?_)
  | (with_reducible refine g_orV ?_)
  | ((with_reducible refine' g_lenS (by assumption) ?_))
  | ((with_reducible refine' g_lenS (SqL.of (by walk_at "lk")) ?_))
  | (with_reducible refine g_U ?_)
  | ((with_reducible refine g_eq ?gs ?_); (case gs => rfl))
  | ((with_reducible refine g_ne ?gs ?_); (case gs => rfl))
  | (with_reducible refine g_drop ?_)
  | (with_reducible refine g_ret ?_)
  | (with_reducible refine g_next ?_)
  | (with_reducible refine g_ifS ?_)
  | (with_reducible refine g_ifE ?_)
  | (with_reducible refine g_test ?_)
  | (with_reducible refine g_tb ?_)
  | (with_reducible refine g_bl ?_)
  | (with_reducible refine g_not ?_)
  | (with_reducible refine g_and ?_)
  | (with_reducible refine g_or ?_)
  | (with_reducible refine g_nil ?_)
  | (with_reducible refine g_cons ?_)
  | (with_reducible refine g_cb ?_)
  | (with_reducible refine g_call ?_)
  | (with_reducible refine g_int ?_)
  | (with_reducible refine g_two ?_)
  | ((with_reducible refine g_lenStr ?gz ?_); (case gz => first | assumption | exact sz_le (by omega)))
  | (with_reducible refine g_m1 ?_)
  | (with_reducible refine g_isS ?_)
  | (with_reducible refine g_nn ?_)
  | (with_reducible refine g_yes ?_)
  | (with_reducible refine g_for ?_)
  | (with_reducible refine g_ckw ?_)
  | (with_reducible refine g_chain ?_)
  | (with_reducible refine g_gcons ?_)
  | (with_reducible refine g_gnil ?_)
  | (with_reducible refine g_notV ?_)
  | (with_reducible refine g_iZip ?_)
  | (with_reducible refine g_lc ?_)
  | (with_reducible refine g_lc2 ?_)
  | (with_reducible refine g_iList ?_)
  | (with_reducible refine g_iRng1 ?_)
  | (with_reducible refine g_iRng2 ?_)
  | (with_reducible refine g_sl ?_)
  | (with_reducible refine g_noPart ?_)
  | (with_reducible refine g_part ?_)
  | (with_reducible refine g_ex1 ?_)
  | (with_reducible refine g_bm ?_)
  | ((with_reducible refine' g_tyL (by walk_at "lk") ?_))
  | ((with_reducible refine' g_aug ?gv ?_); (case gv => exact rfl))
  | (with_reducible refine g_ipI ?_)
  | (with_reducible refine g_turn ?_)
  | (with_reducible refine g_brk ?_)
  | (with_reducible refine g_cont ?_)
  | (with_reducible refine g_sign ?_)
  | (with_reducible refine g_lst ?_)
  | (with_reducible refine g_tup ?_)
  | ((with_reducible refine' g_ixL (by assumption) ?ga ?_); (case ga => assumption))
  | ((with_reducible refine' g_ixL (SqL.of (by walk_at "lk")) ?ga ?_); (case ga => first | exact rfl | assumption))
  | ((with_reducible refine' g_ixT (SqT.of (by walk_at "lk")) ?ga ?_); (case ga => first | exact rfl | assumption))
  | ((with_reducible refine' g_lenT (SqT.of (by walk_at "lk")) ?_))
  | ((with_reducible refine' g_isiS (b := true) ?ga ?_); (case ga => decide +kernel))
  | ((with_reducible refine' g_isiS (b := false) ?ga ?_); (case ga => decide +kernel))
  | ((with_reducible refine' g_isiI (b := true) ?ga ?_); (case ga => decide +kernel))
  | ((with_reducible refine' g_isiI (b := false) ?ga ?_); (case ga => decide +kernel))
  | ((with_reducible refine' g_setL2 ?ga ?gb ?_); (case ga => exact rfl); (case gb => exact rfl))
  | ((with_reducible refine' g_setL (by walk_at "lk") ?ga ?gb ?_); (case ga => exact rfl); (case gb => exact rfl)))
local macro_rules | `(tactic| walk_at "go") => `(tactic| ((repeat walk_at "go1"); try dsimp only [List.set, List.cons_append, List.nil_append]))
local macro_rules | `(tactic| walk_at "go1") => `(tactic| first
  | (with_reducible refine WOwn.g_fl ?_)
  | (with_reducible refine WOwn.g_sfl ?_)
  | (with_reducible refine WOwn.g_make ?_)
  | (with_reducible refine WOwn.g_meth ?_)
  | (with_reducible refine WOwn.g_sm ?_)
  | (with_reducible refine WOwn.g_cv ?_))
local macro_rules | `(tactic| walk_at "shl") => `(tactic| (try (refine g_I (shl1 (by omega) (by omega)) ?_; walk_at "go")))
local macro_rules | `(tactic| walk_at "pos") => `(tactic| (try (refine g_I (pos1 _) ?_; walk_at "go")))
/-- pieces from the top bit t down to bit e -/
def Chain : Nat → List (Nat × Nat) → Nat → Prop
  | t, [], e => t = e
  | t, p :: r, e => p.1 + 1 = t ∧ p.2 ≤ p.1 ∧ Chain p.2 r e
theorem Chain.snoc : ∀ {ps : List (Nat × Nat)} {t e h l : Nat}, Chain t ps e → h + 1 = e → l ≤ h → Chain t (ps ++ [(h, l)]) l
  | [], t, e, h, l, c, he, hl => ⟨by rw [show t = e from c]; exact he, hl, rfl⟩
  | _ :: _, _, _, _, _, c, he, hl => ⟨c.1, c.2.1, c.2.2.snoc he hl⟩
theorem Chain.le : ∀ {ps : List (Nat × Nat)} {t e : Nat}, Chain t ps e → e ≤ t
  | [], _, _, c => Nat.le_of_eq c.symm
  | _ :: _, _, _, c => by have := c.2.2.le; have := c.1; have := c.2.1; omega
theorem Chain.mem : ∀ {ps : List (Nat × Nat)} {t e : Nat}, Chain t ps e → ∀ p ∈ ps, p.2 ≤ p.1 ∧ p.1 < t
  | [], _, _, _, p, h => by cases h
  | q :: r, _, _, c, p, h => by
    rcases List.mem_cons.mp h with rfl | h
    · exact ⟨c.2.1, by have := c.1; omega⟩
    · have := c.2.2.mem p h
      have := c.1
      have := c.2.1
      exact ⟨by omega, by omega⟩
def pcV (a : Int) (p : Nat × Nat) : Int := a / 2 ^ p.2 % 2 ^ (p.1 - p.2 + 1)
theorem join_step (a : Int) (l n : Nat) : a / 2 ^ (l + n) * 2 ^ n + a / 2 ^ l % 2 ^ n = a / 2 ^ l := by
  have h := Int.mul_ediv_add_emod (a / 2 ^ l) (2 ^ n)
  have e : a / 2 ^ l / 2 ^ n = a / 2 ^ (l + n) := by
    rw [Int.pow_add, Int.ediv_ediv_of_nonneg (Int.le_of_lt (two_pos l))]
  rw [e] at h
  rw [Int.mul_comm]
  exact h
/-- the words of the pieces, joined -/
theorem gl_chain (a : Int) : ∀ {l : Ws} {ps : List (Nat × Nat)} {t e : Nat}, Chain t ps e → l.map (fun u => u.2) = ps.map (fun p => (pcV a p, ((p.1 - p.2 + 1 : Nat) : Int))) → gl (a / 2 ^ t) l = a / 2 ^ e
  | [], [], t, e, c, _ => by rw [show t = e from c]; rfl
  | [], _ :: _, _, _, _, h => by cases h
  | _ :: _, [], _, _, _, h => by cases h
  | u :: l, p :: ps, t, e, c, h => by
    rw [List.map_cons, List.map_cons] at h
    have h1 := (List.cons.inj h).1
    have h2 := (List.cons.inj h).2
    have ih := gl_chain a (l := l) c.2.2 h2
    obtain ⟨c1, c2, c3⟩ := c
    show gl (a / 2 ^ t * 2 ^ u.2.2.toNat + u.2.1) l = _
    rw [h1]
    show gl (a / 2 ^ t * 2 ^ (p.1 - p.2 + 1) + pcV a p) l = _
    unfold pcV
    rw [show t = p.2 + (p.1 - p.2 + 1) by omega, join_step]
    exact ih
theorem wsum_chain (a : Int) : ∀ {l : Ws} {ps : List (Nat × Nat)} {t e : Nat}, Chain t ps e → l.map (fun u => u.2) = ps.map (fun p => (pcV a p, ((p.1 - p.2 + 1 : Nat) : Int))) → wsum l = (t : Int) - e
  | [], [], t, e, c, _ => by rw [show t = e from c]; simp [wsum]
  | [], _ :: _, _, _, _, h => by cases h
  | _ :: _, [], _, _, _, h => by cases h
  | u :: l, p :: ps, t, e, c, h => by
    rw [List.map_cons, List.map_cons] at h
    have h1 := (List.cons.inj h).1
    have h2 := (List.cons.inj h).2
    have ih := wsum_chain a (l := l) c.2.2 h2
    have hle := c.2.2.le
    obtain ⟨c1, c2, c3⟩ := c
    rw [wsum_cons, h1, ih]
    show ((p.1 - p.2 + 1 : Nat) : Int) + _ = _
    omega
theorem gl_full {a : Int} {w : Nat} {l : Ws} {ps : List (Nat × Nat)} (h0 : 0 ≤ a) (h1 : a < 2 ^ w) (c : Chain w ps 0) (h : l.map (fun u => u.2) = ps.map (fun p => (pcV a p, ((p.1 - p.2 + 1 : Nat) : Int)))) : gl 0 l = a ∧ wsum l = w := by
  have hz : (0 : Int) = a / 2 ^ w := (Int.ediv_eq_zero_of_lt h0 h1).symm
  have g := gl_chain a c h
  rw [← hz] at g
  exact ⟨by rw [g]; simp, by rw [wsum_chain a c h]; omega⟩
/-- rows: the address, high, low -/
def At2 (H : Hp) (l : List (Addr × Nat × Nat)) : Prop := ∀ t ∈ l, H t.1 = some (.tup [.int (t.2.1 : Int), .int (t.2.2 : Int)])
theorem At2.same {H H' : Hp} {l : List (Addr × Nat × Nat)} (s : Same H H') (h : At2 H l) : At2 H' l := fun t ht => s _ _ (h t ht)
theorem At2.nil {H : Hp} : At2 H [] := fun _ ht => by cases ht
def spPieces : Sp := fun us H Q _ => ∃ (w : Nat) (c : Int), us = [.int (w : Int), .int c] ∧ 1 ≤ w ∧ w ≤ 16 ∧ ∀ p l H', H p = none → Same H H' → H' p = some (.lst (l.map fun t : Addr × Nat × Nat => V.ref t.1)) → At2 H' l → Chain w (l.map fun t => t.2) 0 → l.length ≤ 6 → Q (.ref p) H'
def spGlued (C : Addr) : Sp := fun us H Q _ => ∃ (p : Addr) (l : Ws), us = [.ref p] ∧ H p = some (.lst (rfs l)) ∧ At C H l ∧ l ≠ [] ∧ l.length ≤ 6 ∧ wsum l ≤ 16 ∧ ∀ r H', H r = none → Same H H' → WA C H' r (gl 0 l) (wsum l) → Q (.ref r) H'
def spGluedB (C : Addr) : Sp := fun us H Q _ => ∃ (p : Addr) (l : Ws), us = [.ref p] ∧ H p = some (.lst (rfs l)) ∧ At C H l ∧ l.length = 16 ∧ wsum l ≤ 16 ∧ ∀ r H', H r = none → Same H H' → WA C H' r (gl 0 l) (wsum l) → Q (.ref r) H'
theorem for_rangeC {lo c : Int} {n : Nat} {g : TG} {tb : TS} {D : Ends} {σ : L2.St} {H : Hp} (Pv : Nat → L2.St → Hp → Prop) (h0 : Pv 0 σ H)
    (hs : ∀ i σ H, i < n → Pv i σ H → g (.int (lo + (i : Nat) * c)) σ H fun σ2 H2 => tb { D with nx := Pv (i + 1), ct := Pv (i + 1), bk := D.nx } σ2 H2) (hd : ∀ σ H, Pv n σ H → D.nx σ H) : tForK g tb D σ (Itc lo c n) H := by
  refine ⟨fun i m σ H => m = n - i ∧ i ≤ n ∧ Pv i σ H, ⟨n, by simp, Nat.zero_le _, h0⟩, ?_⟩
  rintro i m σ H ⟨rfl, hi, p⟩
  by_cases hlt : i < n
  · refine .inr ⟨hlt, Pv (i + 1), fun σ' H' p' => ⟨n - (i + 1), by omega, rfl, hlt, p'⟩, fun x H' y => ?_⟩
    obtain ⟨e, y⟩ := y
    subst e y
    exact hs i σ _ hlt p
  · have e : i = n := by omega
    subst e
    exact .inl ⟨Nat.le_refl _, hd σ H p⟩
theorem g_iRng3 {ta : TA} {σ : L2.St} {H : Hp} {R : It → Hp → Prop} (h : ta σ H fun vs H1 => ∃ (i j c : Int) (n : Nat), vs = [.int i, .int j, .int c] ∧ RgC i j c n ∧ R (Itc i c n) H1) : iRng3 ta σ H R := h
local macro_rules | `(tactic| walk_at "go1") => `(tactic| (with_reducible refine g_iRng3 ?_))
variable {P : Program} {w : World} {K : PySem.W.Frag} {mg : Str → Option Value} {base : Heap} {dA : Nat → Addr}
theorem ok__law_pieces (T : Txt K mg dA)  {f : Addr} {fd : FuncData} (F : Fun K "_law_pieces" "_law_pieces" s__law_pieces f fd) : FnOk P w K mg base CX0 1 f fd ["width", "cuts"] spPieces := by
  refine F.ok sc__law_pieces (fun vs H Q E h => ?_) (fun cdv A outer s H vs Q E hr h => ?_)
  · obtain ⟨w, c, rfl, _⟩ := h
    rfl
  obtain ⟨w, c, rfl, h1, h2, q⟩ := h
  refine ⟨_, (pss_cons (ps_set (i := 2) sc__law_pieces.nd rfl (.inl rfl) (pe_lst pa_nil))
      (pss_cons (ps_set (i := 3) sc__law_pieces.nd rfl (.inl rfl) (pe_op op_sub (pv 0) pe_int))
      (pss_cons (ps_for PassesOwn.never rfl (pi_range3 (by rfl) T.b_range (pa_cons (pe_op op_sub (pv 0) pe_int) (pa_cons (pe_un un_neg pe_int) (pa_cons (pe_un un_neg pe_int) pa_nil)))) (pg_name (i := 4) sc__law_pieces.nd rfl (.inl rfl)) (pss_one (ps_if (PW.pt (pw_or (pt_cmpR op_eq (pv 4) pe_int (nomark _)) (pw_or1 (PW.pt (pw_and (pt_cmpR op_lt (pe_callB (kcall_len_seq K) (by rfl) T.b_len (by decide +kernel) (pa_cons (pv 2) pa_nil)) pe_int (nomark _)) (pw_and1 (pt_cmpR op_eq (pe_op op_mod (pe_callTy call_int1 (by rfl) T.b_int (by decide +kernel) (pa_cons (pe_op op_shr (pv 1) (pv 4)) pa_nil)) pe_int) pe_int (nomark _)))))))) (pss_cons (ps_expr (kpe_bm K PySem.F.plainAttrs_list PySem.F.slot_list_append PySem.F.type_list_append mt_append (pv 2) (pa_cons (pe_tup (pa_cons (pv 3) (pa_cons (pv 4) pa_nil))) pa_nil)))
      (pss_one (ps_set (i := 3) sc__law_pieces.nd rfl (.inl rfl) (pe_op op_sub (pv 4) pe_int)))) pss_nil)))
      (pss_one (ps_ret (pv 2)))))), ?_⟩
  rw [show (L2.start ["width", "cuts", "pieces", "high", "low"] [.int (w : Int), .int c] : L2.St) = [some (.int (w : Int)), some (.int c), none, none, none] from rfl]
  try simp only [WL.cxK]
  walk_at "go"
  refine ⟨sz_le (n := 0) (by decide), fun p np => ?_⟩
  walk_at "go"
  refine ⟨_, _, _, w, rfl, by have := RgC.neg (i := (w : Int) - 1) (j := -1) (by omega) (by omega) (by decide) (by decide); rw [show ((w : Int) - 1 - -1).toNat = w by omega] at this; exact this, ?_⟩
  refine for_rangeC (fun i σ' H2 => ∃ (l : List (Addr × Nat × Nat)) (e : Nat) (y : Option V), σ' = [some (.int (w : Int)), some (.int c), some (.ref p), some (.int ((e : Int) - 1)), y] ∧ H2 p = some (.lst (l.map fun t => V.ref t.1)) ∧ At2 H2 l ∧ Same H H2 ∧ Chain w (l.map fun t => t.2) e ∧ w - i ≤ e ∧ (i < w → l.length ≤ 5) ∧ (i = w → e = 0 ∧ l.length ≤ 6))
    ⟨[], w, _, rfl, upd_same, At2.nil, same_new np, rfl, by omega, fun _ => Nat.zero_le _, fun h => by omega⟩ (fun i σ' H2 hi hP => ?_) (fun σ' H2 hP => ?_)
  · obtain ⟨l, e, y, rfl, hp, h2', s, hc, he, hl5, _⟩ := hP
    have hl5 := hl5 hi
    have hce := hc.le
    rw [show (w : Int) - 1 + (i : Nat) * (-1) = ((w - 1 - i : Nat) : Int) by omega]
    walk_at "go"
    refine g_iteI (fun e1 => ?_) (fun e1 => ?_)
    · have hl6 : l.length ≤ 5 := hl5
      walk_at "go"
      refine ⟨sz_le (n := 2) (by decide), fun q1 nq => ?_⟩
      walk_at "go"
      refine ⟨p, _, _, rfl, rfl, same_new nq _ _ hp, by rw [List.length_map]; exact Nat.lt_of_le_of_lt hl5 (by decide), ?_⟩
      walk_at "go"
      have npq : q1 ≠ p := fun z => by rw [z, hp] at nq; cases nq
      refine ⟨l ++ [(q1, e - 1, w - 1 - i)], w - 1 - i, _, rfl, by rw [upd_same, List.map_append]; rfl, ?_, ?_, by rw [List.map_append]; exact hc.snoc (by omega) (by omega), by omega, fun h => by omega, fun hiw => ⟨by omega, by rw [List.length_append]; simp; omega⟩⟩
      · intro u hu
        rcases List.mem_append.mp hu with hu | hu
        · have h3 := h2' u hu
          have n1 : u.1 ≠ p := fun z => by rw [z, hp] at h3; cases h3
          rw [upd_ne n1]
          exact same_new nq _ _ h3
        · rw [List.mem_singleton.mp hu, upd_ne npq, upd_same, show ((e : Nat) : Int) - 1 = ((e - 1 : Nat) : Int) by omega]
      · intro b o hb
        have n1 : b ≠ p := fun z => by rw [z, np] at hb; cases hb
        rw [upd_ne n1]
        exact same_new nq _ _ (s _ _ hb)
    · walk_at "go"
      rw [List.length_map]
      refine g_ite (fun e2 => ?_) (fun e2 => ?_)
      · walk_at "go"
        try (refine g_I (show (0 : Int) ≤ ((w - 1 - i : Nat) : Int) by omega) ?_; walk_at "go")
        refine g_iteI (fun e3 => ?_) (fun e3 => ?_)
        · walk_at "go"
          refine ⟨sz_le (n := 2) (by decide), fun q1 nq => ?_⟩
          walk_at "go"
          refine ⟨p, _, _, rfl, rfl, same_new nq _ _ hp, by rw [List.length_map]; exact Nat.lt_of_le_of_lt hl5 (by decide), ?_⟩
          walk_at "go"
          have npq : q1 ≠ p := fun z => by rw [z, hp] at nq; cases nq
          refine ⟨l ++ [(q1, e - 1, w - 1 - i)], w - 1 - i, _, rfl, by rw [upd_same, List.map_append]; rfl, ?_, ?_, by rw [List.map_append]; exact hc.snoc (by omega) (by omega), by omega, fun _ => by rw [List.length_append]; simp; omega, fun hiw => ⟨by omega, by rw [List.length_append]; simp; omega⟩⟩
          · intro u hu
            rcases List.mem_append.mp hu with hu | hu
            · have h3 := h2' u hu
              have n1 : u.1 ≠ p := fun z => by rw [z, hp] at h3; cases h3
              rw [upd_ne n1]
              exact same_new nq _ _ h3
            · rw [List.mem_singleton.mp hu, upd_ne npq, upd_same, show ((e : Nat) : Int) - 1 = ((e - 1 : Nat) : Int) by omega]
          · intro b o hb
            have n1 : b ≠ p := fun z => by rw [z, np] at hb; cases hb
            rw [upd_ne n1]
            exact same_new nq _ _ (s _ _ hb)
        · walk_at "go"
          exact ⟨l, e, _, rfl, hp, h2', s, hc, by omega, fun _ => hl5, fun h => by omega⟩
      · walk_at "go"
        exact ⟨l, e, _, rfl, hp, h2', s, hc, by omega, fun _ => hl5, fun h => by omega⟩
  · obtain ⟨l, e, y, rfl, hp, h2', s, hc, he, _, h6⟩ := hP
    obtain ⟨rfl, h7⟩ := h6 rfl
    walk_at "go"
    exact q p l H2 np s hp h2' hc h7
theorem ok__law_glued (T : Txt K mg dA) (sm_Word_glue : WOwn.StM P w K mg base CX0 3 (dA 200) "glue" (spGlue (dA 200))) {f : Addr} {fd : FuncData} (F : Fun K "_law_glued" "_law_glued" s__law_glued f fd) : FnOk P w K mg base CX0 4 f fd ["words"] (spGlued (dA 200)) := by
  refine F.ok sc__law_glued (fun vs H Q E h => ?_) (fun cdv A outer s H vs Q E hr h => ?_)
  · obtain ⟨p, l, rfl, _⟩ := h
    rfl
  obtain ⟨p, l, rfl, hp, hA, hn, h6, h16, q⟩ := h
  refine ⟨_, (pss_cons (ps_if (pt_cmpR op_eq (pe_callB (kcall_len_seq K) (by rfl) T.b_len (by decide +kernel) (pa_cons (pv 0) pa_nil)) pe_int (nomark _)) (pss_one (ps_ret (WOwn.pe_sm (E := E0) sm_Word_glue hr (by decide) pass0 (C8.pe_gc (by rfl) T.gc_Word) (pa_cons (pe_ix (kix_list K) (pv 0) pe_int (fun _ _ => rfl)) pa_nil)))) pss_nil)
      (pss_cons (ps_if (pt_cmpR op_eq (pe_callB (kcall_len_seq K) (by rfl) T.b_len (by decide +kernel) (pa_cons (pv 0) pa_nil)) pe_int (nomark _)) (pss_one (ps_ret (WOwn.pe_sm (E := E0) sm_Word_glue hr (by decide) pass0 (C8.pe_gc (by rfl) T.gc_Word) (pa_cons (pe_ix (kix_list K) (pv 0) pe_int (fun _ _ => rfl)) (pa_cons (pe_ix (kix_list K) (pv 0) pe_int (fun _ _ => rfl)) pa_nil))))) pss_nil)
      (pss_cons (ps_if (pt_cmpR op_eq (pe_callB (kcall_len_seq K) (by rfl) T.b_len (by decide +kernel) (pa_cons (pv 0) pa_nil)) pe_int (nomark _)) (pss_one (ps_ret (WOwn.pe_sm (E := E0) sm_Word_glue hr (by decide) pass0 (C8.pe_gc (by rfl) T.gc_Word) (pa_cons (pe_ix (kix_list K) (pv 0) pe_int (fun _ _ => rfl)) (pa_cons (pe_ix (kix_list K) (pv 0) pe_int (fun _ _ => rfl)) (pa_cons (pe_ix (kix_list K) (pv 0) pe_int (fun _ _ => rfl)) pa_nil)))))) pss_nil)
      (pss_cons (ps_if (pt_cmpR op_eq (pe_callB (kcall_len_seq K) (by rfl) T.b_len (by decide +kernel) (pa_cons (pv 0) pa_nil)) pe_int (nomark _)) (pss_one (ps_ret (WOwn.pe_sm (E := E0) sm_Word_glue hr (by decide) pass0 (C8.pe_gc (by rfl) T.gc_Word) (pa_cons (pe_ix (kix_list K) (pv 0) pe_int (fun _ _ => rfl)) (pa_cons (pe_ix (kix_list K) (pv 0) pe_int (fun _ _ => rfl)) (pa_cons (pe_ix (kix_list K) (pv 0) pe_int (fun _ _ => rfl)) (pa_cons (pe_ix (kix_list K) (pv 0) pe_int (fun _ _ => rfl)) pa_nil))))))) pss_nil)
      (pss_cons (ps_if (pt_cmpR op_eq (pe_callB (kcall_len_seq K) (by rfl) T.b_len (by decide +kernel) (pa_cons (pv 0) pa_nil)) pe_int (nomark _)) (pss_one (ps_ret (WOwn.pe_sm (E := E0) sm_Word_glue hr (by decide) pass0 (C8.pe_gc (by rfl) T.gc_Word) (pa_cons (pe_ix (kix_list K) (pv 0) pe_int (fun _ _ => rfl)) (pa_cons (pe_ix (kix_list K) (pv 0) pe_int (fun _ _ => rfl)) (pa_cons (pe_ix (kix_list K) (pv 0) pe_int (fun _ _ => rfl)) (pa_cons (pe_ix (kix_list K) (pv 0) pe_int (fun _ _ => rfl)) (pa_cons (pe_ix (kix_list K) (pv 0) pe_int (fun _ _ => rfl)) pa_nil)))))))) pss_nil)
      (pss_one (ps_ret (WOwn.pe_sm (E := E0) sm_Word_glue hr (by decide) pass0 (C8.pe_gc (by rfl) T.gc_Word) (pa_cons (pe_ix (kix_list K) (pv 0) pe_int (fun _ _ => rfl)) (pa_cons (pe_ix (kix_list K) (pv 0) pe_int (fun _ _ => rfl)) (pa_cons (pe_ix (kix_list K) (pv 0) pe_int (fun _ _ => rfl)) (pa_cons (pe_ix (kix_list K) (pv 0) pe_int (fun _ _ => rfl)) (pa_cons (pe_ix (kix_list K) (pv 0) pe_int (fun _ _ => rfl)) (pa_cons (pe_ix (kix_list K) (pv 0) pe_int (fun _ _ => rfl)) pa_nil)))))))))))))), ?_⟩
  rw [show (L2.start ["words"] [.ref p] : L2.St) = [some (.ref p)] from rfl]
  try simp only [WL.cxK]
  have g : At (dA 200) H l → spGlue (dA 200) (rfs l) H Q E0 := fun hA => g_glue hA hn h16 q
  match l, hn, h6 with
  | [x0], _, _ =>
    have hp : H p = some (.lst [.ref x0.1]) := hp
    walk_at "go"
    refine g_iteI (fun _ => ?_) (fun e => absurd rfl e)
    walk_at "go"
    refine ⟨rfl, ?_⟩
    walk_at "go"
    exact g hA
  | [x0, x1], _, _ =>
    have hp : H p = some (.lst [.ref x0.1, .ref x1.1]) := hp
    walk_at "go"
    refine g_iteI (fun e => absurd e (by simp)) (fun _ => ?_)
    walk_at "go"
    refine g_iteI (fun _ => ?_) (fun e => absurd rfl e)
    walk_at "go"
    refine ⟨rfl, ?_⟩
    walk_at "go"
    exact g hA
  | [x0, x1, x2], _, _ =>
    have hp : H p = some (.lst [.ref x0.1, .ref x1.1, .ref x2.1]) := hp
    walk_at "go"
    refine g_iteI (fun e => absurd e (by simp)) (fun _ => ?_)
    walk_at "go"
    refine g_iteI (fun e => absurd e (by simp)) (fun _ => ?_)
    walk_at "go"
    refine g_iteI (fun _ => ?_) (fun e => absurd rfl e)
    walk_at "go"
    refine ⟨rfl, ?_⟩
    walk_at "go"
    exact g hA
  | [x0, x1, x2, x3], _, _ =>
    have hp : H p = some (.lst [.ref x0.1, .ref x1.1, .ref x2.1, .ref x3.1]) := hp
    walk_at "go"
    refine g_iteI (fun e => absurd e (by simp)) (fun _ => ?_)
    walk_at "go"
    refine g_iteI (fun e => absurd e (by simp)) (fun _ => ?_)
    walk_at "go"
    refine g_iteI (fun e => absurd e (by simp)) (fun _ => ?_)
    walk_at "go"
    refine g_iteI (fun _ => ?_) (fun e => absurd rfl e)
    walk_at "go"
    refine ⟨rfl, ?_⟩
    walk_at "go"
    exact g hA
  | [x0, x1, x2, x3, x4], _, _ =>
    have hp : H p = some (.lst [.ref x0.1, .ref x1.1, .ref x2.1, .ref x3.1, .ref x4.1]) := hp
    walk_at "go"
    refine g_iteI (fun e => absurd e (by simp)) (fun _ => ?_)
    walk_at "go"
    refine g_iteI (fun e => absurd e (by simp)) (fun _ => ?_)
    walk_at "go"
    refine g_iteI (fun e => absurd e (by simp)) (fun _ => ?_)
    walk_at "go"
    refine g_iteI (fun e => absurd e (by simp)) (fun _ => ?_)
    walk_at "go"
    refine g_iteI (fun _ => ?_) (fun e => absurd rfl e)
    walk_at "go"
    refine ⟨rfl, ?_⟩
    walk_at "go"
    exact g hA
  | [x0, x1, x2, x3, x4, x5], _, _ =>
    have hp : H p = some (.lst [.ref x0.1, .ref x1.1, .ref x2.1, .ref x3.1, .ref x4.1, .ref x5.1]) := hp
    walk_at "go"
    refine g_iteI (fun e => absurd e (by simp)) (fun _ => ?_)
    walk_at "go"
    refine g_iteI (fun e => absurd e (by simp)) (fun _ => ?_)
    walk_at "go"
    refine g_iteI (fun e => absurd e (by simp)) (fun _ => ?_)
    walk_at "go"
    refine g_iteI (fun e => absurd e (by simp)) (fun _ => ?_)
    walk_at "go"
    refine g_iteI (fun e => absurd e (by simp)) (fun _ => ?_)
    walk_at "go"
    refine ⟨rfl, ?_⟩
    walk_at "go"
    exact g hA
theorem ok__law_glued_bits (T : Txt K mg dA) (sm_Word_glue : WOwn.StM P w K mg base CX0 3 (dA 200) "glue" (spGlue (dA 200))) {f : Addr} {fd : FuncData} (F : Fun K "_law_glued_bits" "_law_glued_bits" s__law_glued_bits f fd) : FnOk P w K mg base CX0 4 f fd ["x"] (spGluedB (dA 200)) := by
  refine F.ok sc__law_glued_bits (fun vs H Q E h => ?_) (fun cdv A outer s H vs Q E hr h => ?_)
  · obtain ⟨p, l, rfl, _⟩ := h
    rfl
  obtain ⟨p, l, rfl, hp, hA, hl, h16, q⟩ := h
  refine ⟨_, (pss_one (ps_ret (WOwn.pe_sm (E := E0) sm_Word_glue hr (by decide) pass0 (C8.pe_gc (by rfl) T.gc_Word) (pa_cons (pe_ix (kix_list K) (pv 0) pe_int (fun _ _ => rfl)) (pa_cons (pe_ix (kix_list K) (pv 0) pe_int (fun _ _ => rfl)) (pa_cons (pe_ix (kix_list K) (pv 0) pe_int (fun _ _ => rfl)) (pa_cons (pe_ix (kix_list K) (pv 0) pe_int (fun _ _ => rfl)) (pa_cons (pe_ix (kix_list K) (pv 0) pe_int (fun _ _ => rfl)) (pa_cons (pe_ix (kix_list K) (pv 0) pe_int (fun _ _ => rfl)) (pa_cons (pe_ix (kix_list K) (pv 0) pe_int (fun _ _ => rfl)) (pa_cons (pe_ix (kix_list K) (pv 0) pe_int (fun _ _ => rfl)) (pa_cons (pe_ix (kix_list K) (pv 0) pe_int (fun _ _ => rfl)) (pa_cons (pe_ix (kix_list K) (pv 0) pe_int (fun _ _ => rfl)) (pa_cons (pe_ix (kix_list K) (pv 0) pe_int (fun _ _ => rfl)) (pa_cons (pe_ix (kix_list K) (pv 0) pe_int (fun _ _ => rfl)) (pa_cons (pe_ix (kix_list K) (pv 0) pe_int (fun _ _ => rfl)) (pa_cons (pe_ix (kix_list K) (pv 0) pe_int (fun _ _ => rfl)) (pa_cons (pe_ix (kix_list K) (pv 0) pe_int (fun _ _ => rfl)) (pa_cons (pe_ix (kix_list K) (pv 0) pe_int (fun _ _ => rfl)) pa_nil))))))))))))))))))), ?_⟩
  rw [show (L2.start ["x"] [.ref p] : L2.St) = [some (.ref p)] from rfl]
  try simp only [WL.cxK]
  have g : At (dA 200) H l → spGlue (dA 200) (rfs l) H Q E0 := fun hA => g_glue hA (fun e => by rw [e] at hl; cases hl) h16 q
  match l, hl with
  | [x0, x1, x2, x3, x4, x5, x6, x7, x8, x9, x10, x11, x12, x13, x14, x15], _ =>
    have hp : H p = some (.lst [.ref x0.1, .ref x1.1, .ref x2.1, .ref x3.1, .ref x4.1, .ref x5.1, .ref x6.1, .ref x7.1, .ref x8.1, .ref x9.1, .ref x10.1, .ref x11.1, .ref x12.1, .ref x13.1, .ref x14.1, .ref x15.1]) := hp
    walk_at "go"
    refine ⟨rfl, ?_⟩
    walk_at "go"
    exact g hA
end K12
set_option Elab.async false
set_option linter.all false
set_option maxRecDepth 100000
set_option maxHeartbeats 4000000
namespace K12
open PySem PySem.Spec PyProof.Rows L2 WL
local macro_rules | `(tactic| walk_at "lk") => `(tactic| first
  | exact upd_same
  | assumption
  | (rw [upd_ne (by assumption)]; first | exact upd_same | assumption | (rw [upd_ne (by assumption)]; first | exact upd_same | assumption | (rw [upd_ne (by assumption)]; first | exact upd_same | assumption))))
local macro_rules | `(tactic| walk_at "go1") => `(tactic| first
  | (with_reducible refine g_seq ?_)
  | (with_reducible refine g_asg ?_)
  | (with_reducible refine g_name ?_)
  | (with_reducible refine g_sub ?_)
  | ((with_reducible refine' g_var ?gv ?_); (case gv => exact rfl))
  | (with_reducible refine g_c ?_)
  | (with_reducible refine g_op ?_)
  | (with_reducible refine g_un ?_)
  | (with_reducible refine g_I0 ?_)
  | ((with_reducible refine g_I ?gc ?_); (case gc => first | assumption | decide | (show (0 : Int) < _; omega) | exact Or.inr ⟨by omega, by omega⟩ | exact Or.inl ⟨by omega, by omega⟩ | exact ⟨by omega, by omega⟩))
  | (with_reducible refine iteT ?_)
  | (with_reducible refine iteF ?_)
  | (with_reducible refine iteNT ?_)
  | (with_reducible refine iteNF ?_)
  | (with_reducible refine g_andV ?_)
  | (with_reducible refine g_orV ?_)
  | ((with_reducible refine' g_lenS (by assumption) ?_))
  | ((with_reducible refine' g_lenS (SqL.of (by walk_at "lk")) ?_))
  | (with_reducible refine g_U ?_)
  | ((with_reducible refine g_eq ?gs ?_); (case gs => rfl))
  | ((with_reducible refine g_ne ?gs ?_); (case gs => rfl))
  | (with_reducible refine g_drop ?_)
  | (with_reducible refine g_ret ?_)
  | (with_reducible refine g_next ?_)
  | (with_reducible refine g_ifS ?_)
  | (with_reducible refine g_ifE ?_)
  | (with_reducible refine g_test ?_)
  | (with_reducible refine g_tb ?_)
  | (with_reducible refine g_bl ?_)
  | (with_reducible refine g_not ?_)
  | (with_reducible refine g_and ?_)
  | (with_reducible refine g_or ?_)
  | (with_reducible refine g_nil ?_)
  | (with_reducible refine g_cons ?_)
  | (with_reducible refine g_cb ?_)
  | (with_reducible refine g_call ?_)
  | (with_reducible refine g_int ?_)
  | (with_reducible refine g_two ?_)
  | ((with_reducible refine g_lenStr ?gz ?_); (case gz => first | assumption | exact sz_le (by omega)))
  | (with_reducible refine g_m1 ?_)
  | (with_reducible refine g_isS ?_)
  | (with_reducible refine g_nn ?_)
  | (with_reducible refine g_yes ?_)
  | (with_reducible refine g_for ?_)
  | (with_reducible refine g_ckw ?_)
  | (with_reducible refine g_chain ?_)
  | (with_reducible refine g_gcons ?_)
  | (with_reducible refine g_gnil ?_)
  | (with_reducible refine g_notV ?_)
  | (with_reducible refine g_iZip ?_)
  | (with_reducible refine g_lc ?_)
  | (with_reducible refine g_lc2 ?_)
  | (with_reducible refine g_iList ?_)
  | (with_reducible refine g_iRng1 ?_)
  | (with_reducible refine g_iRng2 ?_)
  | (with_reducible refine g_sl ?_)
  | (with_reducible refine g_noPart ?_)
  | (with_reducible refine g_part ?_)
  | (with_reducible refine g_ex1 ?_)
  | (with_reducible refine g_bm ?_)
  | ((with_reducible refine' g_tyL (by walk_at "lk") ?_))
  | ((with_reducible refine' g_aug ?gv ?_); (case gv => exact rfl))
  | (with_reducible refine g_ipI ?_)
  | (with_reducible refine g_turn ?_)
  | (with_reducible refine g_brk ?_)
  | (with_reducible refine g_cont ?_)
  | (with_reducible refine g_sign ?_)
  | (with_reducible refine g_lst ?_)
  | (with_reducible refine g_tup ?_)
  | ((with_reducible refine' g_ixL (by assumption) ?ga ?_); (case ga => assumption))
  | ((with_reducible refine' g_ixL (SqL.of (by walk_at "lk")) ?ga ?_); (case ga => first | exact rfl | assumption))
  | ((with_reducible refine' g_ixT (SqT.of (by walk_at "lk")) ?ga ?_); (case ga => first | exact rfl | assumption))
  | ((with_reducible refine' g_lenT (SqT.of (by walk_at "lk")) ?_))
  | ((with_reducible refine' g_isiS (b := true) ?ga ?_); (case ga => decide +kernel))
  | ((with_reducible refine' g_isiS (b := false) ?ga ?_); (case ga => decide +kernel))
  | ((with_reducible refine' g_isiI (b := true) ?ga ?_); (case ga => decide +kernel))
  | ((with_reducible refine' g_isiI (b := false) ?ga ?_); (case ga => decide +kernel))
  | ((with_reducible refine' g_setL2 ?ga ?gb ?_); (case ga => exact rfl); (case gb => exact rfl))
  | ((with_reducible refine' g_setL (by walk_at "lk") ?ga ?gb ?_); (case ga => exact rfl); (case gb => exact rfl)))
local macro_rules | `(tactic| walk_at "go") => `(tactic| ((repeat walk_at "go1"); try dsimp only [List.set, List.cons_append, List.nil_append]))
local macro_rules | `(tactic| walk_at "go1") => `(tactic| first
  | (with_reducible refine WOwn.g_fl ?_)
  | (with_reducible refine WOwn.g_sfl ?_)
  | (with_reducible refine WOwn.g_make ?_)
  | (with_reducible refine WOwn.g_meth ?_)
  | (with_reducible refine WOwn.g_sm ?_)
  | (with_reducible refine WOwn.g_cv ?_))
local macro_rules | `(tactic| walk_at "shl") => `(tactic| (try (refine g_I (shl1 (by omega) (by omega)) ?_; walk_at "go")))
local macro_rules | `(tactic| walk_at "pos") => `(tactic| (try (refine g_I (pos1 _) ?_; walk_at "go")))
def pcW (a : Int) (p : Nat × Nat) : Int × Int := (pcV a p, ((p.1 - p.2 + 1 : Nat) : Int))
theorem pc_wd {a : Int} {p : Nat × Nat} {w : Nat} (hw : w ≤ 16) (h : p.2 ≤ p.1 ∧ p.1 < w) : Wd (pcV a p) ((p.1 - p.2 + 1 : Nat) : Int) := by
  have := mod_wd (z := a / 2 ^ p.2) (w := ((p.1 - p.2 + 1 : Nat) : Int)) (by omega) (by omega)
  rw [Int.one_mul] at this
  exact this
theorem pc_eq (a : Int) {h l : Nat} (hl : l ≤ h) : a / 2 ^ (l : Int).toNat % (1 * 2 ^ ((h : Int) - (l : Int) + 1).toNat) = pcV a (h, l) := by
  rw [Int.one_mul, show ((h : Int) - (l : Int) + 1).toNat = h - l + 1 by omega]
  rfl
theorem At.nil {C : Addr} {H : Hp} : At C H [] := fun _ ht => by cases ht
theorem WA.set {C a D : Addr} {H : Hp} {v w : Int} {xs : List V} {o : HO} (hD : H D = some (.lst xs)) (h : WA C H a v w) : WA C (upd H D o) a v w := by
  obtain ⟨dx, e⟩ := h
  have : a ≠ D := by
    rintro rfl
    rw [hD] at e
    cases e
  exact ⟨dx, by rw [upd_ne this]; exact e⟩
theorem comp_end {C D q : Addr} {H2 H' G : Hp} {l2 : Ws} {v w : Int} (nD : H2 D = none) (hD : H' D = some (.lst (rfs l2))) (hA : At C H' l2) (s3 : Same H2 H') (s4 : Same H' G) (hw : Wd v w) (wq : WA C G q v w) :
    G D = some (.lst (rfs l2)) ∧ upd G D (.lst (rfs l2 ++ [.ref q])) D = some (.lst (rfs (l2 ++ [(q, v, w)]))) ∧ At C (upd G D (.lst (rfs l2 ++ [.ref q]))) (l2 ++ [(q, v, w)]) ∧ Same H2 (upd G D (.lst (rfs l2 ++ [.ref q]))) := by
  have hG := s4 _ _ hD
  refine ⟨hG, by rw [upd_same, rfs, rfs, List.map_append]; rfl, fun u hu => ?_, fun b x hb => by rw [upd_ne (ne_of_none hb nD)]; exact s4 _ _ (s3 _ _ hb)⟩
  rcases List.mem_append.mp hu with hu | hu
  · exact ⟨(hA u hu).1, ((hA u hu).2.same s4).set hG⟩
  · rw [List.mem_singleton.mp hu]
    exact ⟨hw, wq.set hG⟩
theorem small_n {n : Nat} (h : n ≤ 16) : n < sizeLine := Nat.lt_of_le_of_lt h (by decide)
def spJoins : Sp := fun us H Q _ => ∃ (a : Int) (w : Nat) (c : Int), us = [.int a, .int (w : Int), .int c] ∧ Wd a (w : Int) ∧ ∀ H', Same H H' → Q (.bl true) H'
def spBits : Sp := fun us H Q _ => ∃ (a : Int), us = [.int a] ∧ Wd a 16 ∧ ∀ H', Same H H' → Q (.bl true) H'
def spLaw (K : PySem.W.Frag) : Sp := fun us H Q _ => ∃ (a : Addr) (ns : List Int), us = [.ref a] ∧ SqL K H a (ns.map V.int) ∧ ns.length ≤ 63 ∧ ∀ H', Q (.bl true) H'
variable {P : Program} {w : World} {K : PySem.W.Frag} {mg : Str → Option Value} {base : Heap} {dA : Nat → Addr}
theorem ok__law_joins (T : Txt K mg dA) (c__law_pieces : C8.Cal P w K mg base 1 "_law_pieces" spPieces []) (c__law_is_word : C8.Cal P w K mg base 2 "_law_is_word" (spIsWord (dA 200)) []) (c__law_glued : C8.Cal P w K mg base 4 "_law_glued" (spGlued (dA 200)) []) (m_Word : C8.Mak P w K mg base 1 "Word" (dA 200) (spNew (dA 200)) []) (c_Word_part : C8.Met P w K mg base 3 (dA 200) "part" (spPart (dA 200)) []) (sm_Word_glue : WOwn.StM P w K mg base CX0 3 (dA 200) "glue" (spGlue (dA 200))) {f : Addr} {fd : FuncData} (F : Fun K "_law_joins" "_law_joins" s__law_joins f fd) : FnOk P w K mg base CX0 5 f fd ["a", "width", "cuts"] spJoins := by
  refine F.ok sc__law_joins (fun vs H Q E h => ?_) (fun cdv A outer s H vs Q E hr h => ?_)
  · obtain ⟨a, w, c, rfl, _⟩ := h
    rfl
  obtain ⟨a, w, c, rfl, ha, q⟩ := h
  refine ⟨_, (pss_cons (ps_set (i := 3) sc__law_joins.nd rfl (.inr rfl) (C8.pe_mk m_Word hr (by decide) (by rfl) (pa_cons (pv 0) (pa_cons (pv 1) pa_nil))))
      (pss_cons (ps_set (i := 4) sc__law_joins.nd rfl (.inl rfl) (C8.pe_c c__law_pieces hr (by decide) (by rfl) (pa_cons (pv 1) (pa_cons (pv 2) pa_nil))))
      (pss_cons (ps_setLc (i := 5) (own := [("high", 9), ("low", 10)]) rfl sc__law_joins.nd rfl rfl (sw_true rfl rfl rfl (by decide +kernel)) (kpi_list K (pv 4)) (blkOk_by (own := [("high", 9), ("low", 10)]) (N := ["a", "width", "cuts", "one", "rows", "made", "told", "k", "wide", "high", "low"]) (sc := defScope s__law_joins) (by decide +kernel)) (fun _ _ _ _ _ => (kpg_tup K (n := 2) (by rfl) (pgs_cons (pg_name (i := 9) sc__law_joins.nd rfl (.inl rfl)) (pgs_cons (pg_name (i := 10) sc__law_joins.nd rfl (.inl rfl)) pgs_nil)))) (fun _ _ _ _ _ => pts_nil) (fun _ _ _ _ _ => (C8.pe_mk m_Word hr (by decide) (by rfl) (pa_cons (pe_op op_mod (pe_callTy call_int1 (by rfl) T.b_int (by decide +kernel) (pa_cons (pe_op op_shr (pv 0) (pv 10)) pa_nil)) (pe_op op_shl pe_int (pe_op op_add (pe_op op_sub (pv 9) (pv 10)) pe_int))) (pa_cons (pe_op op_add (pe_op op_sub (pv 9) (pv 10)) pe_int) pa_nil)))))
      (pss_cons (ps_if (pt_not (pt_val (C8.pe_c c__law_is_word hr (by decide) (by rfl) (pa_cons (C8.pe_c c__law_glued hr (by decide) (by rfl) (pa_cons (pv 5) pa_nil)) (pa_cons (pv 0) (pa_cons (pv 1) pa_nil)))))) (pss_one (ps_ret pe_bl)) pss_nil)
      (pss_cons (ps_setLc (i := 6) (own := [("high", 9), ("low", 10)]) rfl sc__law_joins.nd rfl rfl (sw_true rfl rfl rfl (by decide +kernel)) (kpi_list K (pv 4)) (blkOk_by (own := [("high", 9), ("low", 10)]) (N := ["a", "width", "cuts", "one", "rows", "made", "told", "k", "wide", "high", "low"]) (sc := defScope s__law_joins) (by decide +kernel)) (fun _ _ _ _ _ => (kpg_tup K (n := 2) (by rfl) (pgs_cons (pg_name (i := 9) sc__law_joins.nd rfl (.inl rfl)) (pgs_cons (pg_name (i := 10) sc__law_joins.nd rfl (.inl rfl)) pgs_nil)))) (fun _ _ _ _ _ => pts_nil) (fun _ _ _ _ _ => (C8.pe_mt c_Word_part hr (by decide) (pv 3) (pa_cons (pv 9) (pa_cons (pv 10) pa_nil)))))
      (pss_cons (ps_if (pt_not (pt_val (C8.pe_c c__law_is_word hr (by decide) (by rfl) (pa_cons (C8.pe_c c__law_glued hr (by decide) (by rfl) (pa_cons (pv 6) pa_nil)) (pa_cons (pv 0) (pa_cons (pv 1) pa_nil)))))) (pss_one (ps_ret pe_bl)) pss_nil)
      (pss_cons (ps_for PassesOwn.never rfl (pi_range1 (by rfl) T.b_range (pa_cons (pe_callB (kcall_len_seq K) (by rfl) T.b_len (by decide +kernel) (pa_cons (pv 4) pa_nil)) pa_nil)) (pg_name (i := 7) sc__law_joins.nd rfl (.inl rfl)) (pss_cons (ps_set (i := 8) sc__law_joins.nd rfl (.inl rfl) (pe_op op_add (pe_op op_sub (pe_ix (kix_tup K) (pe_ix (kix_list K) (pv 4) (pv 7) (fun _ _ => rfl)) pe_int (fun _ _ => rfl)) (pe_ix (kix_tup K) (pe_ix (kix_list K) (pv 4) (pv 7) (fun _ _ => rfl)) pe_int (fun _ _ => rfl))) pe_int))
      (pss_one (ps_if (pt_not (pt_val (C8.pe_c c__law_is_word hr (by decide) (by rfl) (pa_cons (pe_ix (kix_list K) (pv 5) (pv 7) (fun _ _ => rfl)) (pa_cons (pe_op op_mod (pe_callTy call_int1 (by rfl) T.b_int (by decide +kernel) (pa_cons (pe_op op_shr (pv 0) (pe_ix (kix_tup K) (pe_ix (kix_list K) (pv 4) (pv 7) (fun _ _ => rfl)) pe_int (fun _ _ => rfl))) pa_nil)) (pe_op op_shl pe_int (pv 8))) (pa_cons (pv 8) pa_nil)))))) (pss_one (ps_ret pe_bl)) pss_nil))))
      (pss_cons (ps_if (PW.pt (pw_and (pt_cmpR op_le (pv 1) pe_int (nomark _)) (pw_and1 (pt_not (pt_val (C8.pe_c c__law_is_word hr (by decide) (by rfl) (pa_cons (WOwn.pe_sm (E := E0) sm_Word_glue hr (by decide) pass0 (C8.pe_gc (by rfl) T.gc_Word) (pa_cons (pv 3) (pa_cons (pv 3) pa_nil))) (pa_cons (pe_op op_add (pe_op op_shl (pv 0) (pv 1)) (pv 0)) (pa_cons (pe_op op_mul pe_int (pv 1)) pa_nil))))))))) (pss_one (ps_ret pe_bl)) pss_nil)
      (pss_one (ps_ret (C8.pe_c c__law_is_word hr (by decide) (by rfl) (pa_cons (pv 3) (pa_cons (pv 0) (pa_cons (pv 1) pa_nil)))))))))))))), ?_⟩
  rw [show (L2.start ["a", "width", "cuts", "one", "rows", "made", "told", "k", "wide", "high", "low"] [.int a, .int (w : Int), .int c] : L2.St) = [some (.int a), some (.int (w : Int)), some (.int c), none, none, none, none, none, none, none, none] from rfl]
  try simp only [WL.cxK]
  have h1 := ha.a
  have h2 := ha.b
  have h3 : a < 2 ^ w := ha.d
  walk_at "go"
  refine g_newR ha fun p H1 np s w1 => ?_
  walk_at "go"
  refine ⟨w, c, rfl, by omega, by omega, fun rp l G0 nrp s2 hrp hr hc h6 => ?_⟩
  replace w1 := w1.same s2
  replace s := s.trans s2
  have hln : l ≠ [] := fun e => by
    rw [e] at hc
    have : w = 0 := hc
    omega
  walk_at "go"
  refine f_lcL (SqL.of hrp) (fun D i H' => ∃ l2 : Ws, H' D = some (.lst (rfs l2)) ∧ At (dA 200) H' l2 ∧ l2.map (fun u => u.2) = (l.take i).map (fun t => pcW a t.2) ∧ Same G0 H') (fun D nD => ⟨[], upd_same, At.nil, rfl, same_new nD⟩) (fun D i H' nD _ ⟨_, _, _, _, s'⟩ => SqL.of (s' _ _ hrp)) (fun D i x H' nD hx hP => ?_) (fun D H' nD hP => ?_)
  · obtain ⟨l2, hD, hA2, hm, s3⟩ := hP
    have hl2 : l2.length ≤ 16 := by have := congrArg List.length hm; simp at this; omega
    obtain ⟨t, ht, rfl⟩ := map_atG hx
    have htm := List.mem_of_getElem? ht
    have hrow := s3 _ _ (hr t htm)
    have hcm := hc.mem t.2 (List.mem_map_of_mem htm)
    have hwd := pc_wd (a := a) (by omega) hcm
    have e2 : ((t.2.1 : Nat) : Int) - ((t.2.2 : Nat) : Int) + 1 = ((t.2.1 - t.2.2 + 1 : Nat) : Int) := by omega
    walk_at "go"
    refine ⟨t.1, _, rfl, SqT.of hrow, rfl, ?_⟩
    walk_at "go"
    refine ⟨rfl, ?_⟩
    walk_at "go"
    try (refine g_I (show (0 : Int) ≤ ((t.2.2 : Nat) : Int) by omega) ?_; walk_at "go")
    walk_at "shl"
    walk_at "pos"
    rw [pc_eq a hcm.1, e2]
    refine g_newR hwd fun q G nq s4 wq => ?_
    obtain ⟨o1, o2, o3, o4⟩ := comp_end nD hD hA2 s3 s4 hwd wq
    exact ⟨rfs l2, o1, by rw [rfs, List.length_map]; exact small_n hl2, _, o2, o3, by rw [List.map_append, hm, List.take_succ, ht, List.map_append]; rfl, o4⟩
  obtain ⟨lm, hD, hA2, hm, s3⟩ := hP
  rw [List.length_map, List.take_length] at hm
  have hm' : lm.map (fun u => u.2) = (l.map fun t => t.2).map (fun p => (pcV a p, ((p.1 - p.2 + 1 : Nat) : Int))) := by rw [hm, List.map_map]; rfl
  obtain ⟨hg, hs⟩ := gl_full ha.c h3 hc hm'
  have hlm := congrArg List.length hm
  rw [List.length_map, List.length_map] at hlm
  have hn : lm ≠ [] := fun e => hln (List.length_eq_zero_iff.mp (by rw [← hlm, e]; rfl))
  replace w1 := w1.same s3
  replace hr := hr.same s3
  replace hrp := s3 _ _ hrp
  replace s := s.trans s3
  have hmm := hm
  walk_at "go"
  refine ⟨D, lm, rfl, hD, hA2, hn, by omega, by omega, fun r G nr s4 wr => ?_⟩
  replace w1 := w1.same s4
  replace hr := hr.same s4
  replace hrp := s4 _ _ hrp
  replace hA2 := hA2.same s4
  replace hD := s4 _ _ hD
  replace s := s.trans s4
  walk_at "go"
  refine g_isWord wr hg.symm hs.symm ?_
  walk_at "go"
  clear hm' hm s3
  refine f_lcL (SqL.of hrp) (fun D i H' => ∃ l2 : Ws, H' D = some (.lst (rfs l2)) ∧ At (dA 200) H' l2 ∧ l2.map (fun u => u.2) = (l.take i).map (fun t => pcW a t.2) ∧ Same G H') (fun D2 nD => ⟨[], upd_same, At.nil, rfl, same_new nD⟩) (fun D i H' nD _ ⟨_, _, _, _, s'⟩ => SqL.of (s' _ _ hrp)) (fun D2 i x H' nD hx hP => ?_) (fun D2 H' nD hP => ?_)
  · obtain ⟨l2, hD, hA2, hm, s3⟩ := hP
    have hl2 : l2.length ≤ 16 := by have := congrArg List.length hm; simp at this; omega
    obtain ⟨t, ht, rfl⟩ := map_atG hx
    have htm := List.mem_of_getElem? ht
    have hrow := s3 _ _ (hr t htm)
    have hcm := hc.mem t.2 (List.mem_map_of_mem htm)
    have hwd := pc_wd (a := a) (by omega) hcm
    have e2 : ((t.2.1 : Nat) : Int) - ((t.2.2 : Nat) : Int) + 1 = ((t.2.1 - t.2.2 + 1 : Nat) : Int) := by omega
    walk_at "go"
    refine ⟨t.1, _, rfl, SqT.of hrow, rfl, ?_⟩
    walk_at "go"
    refine ⟨rfl, ?_⟩
    walk_at "go"
    refine g_methW (w1.same s3) rfl ?_
    walk_at "go"
    refine ⟨p, a, w, (t.2.1 : Int), (t.2.2 : Int), rfl, ha, by omega, by omega, by omega, w1.same s3, fun q G2 nq s4 wq => ?_⟩
    rw [pc_eq a hcm.1, e2] at wq
    obtain ⟨o1, o2, o3, o4⟩ := comp_end nD hD hA2 s3 s4 hwd wq
    exact ⟨rfs l2, o1, by rw [rfs, List.length_map]; exact small_n hl2, _, o2, o3, by rw [List.map_append, hm, List.take_succ, ht, List.map_append]; rfl, o4⟩
  obtain ⟨lt, hD2, hA3, hm, s3⟩ := hP
  rw [List.length_map, List.take_length] at hm
  have hm' : lt.map (fun u => u.2) = (l.map fun t => t.2).map (fun p => (pcV a p, ((p.1 - p.2 + 1 : Nat) : Int))) := by rw [hm, List.map_map]; rfl
  obtain ⟨hg2, hs2⟩ := gl_full ha.c h3 hc hm'
  have hlt := congrArg List.length hm
  rw [List.length_map, List.length_map] at hlt
  have hn2 : lt ≠ [] := fun e => hln (List.length_eq_zero_iff.mp (by rw [← hlt, e]; rfl))
  replace w1 := w1.same s3
  replace hr := hr.same s3
  replace hrp := s3 _ _ hrp
  replace hA2 := hA2.same s3
  replace hD := s3 _ _ hD
  replace s := s.trans s3
  walk_at "go"
  refine ⟨D2, lt, rfl, hD2, hA3, hn2, by omega, by omega, fun r2 G3 nr2 s5 wr2 => ?_⟩
  replace w1 := w1.same s5
  replace hr := hr.same s5
  replace hrp := s5 _ _ hrp
  replace hA2 := hA2.same s5
  replace hD := s5 _ _ hD
  replace s := s.trans s5
  walk_at "go"
  refine g_isWord wr2 hg2.symm hs2.symm ?_
  walk_at "go"
  rw [List.length_map]
  refine f_rng1 (by omega) (by omega) (fun i σ' H' => ∃ y7 y8 y9 y10, σ' = [some (.int a), some (.int (w : Int)), some (.int c), some (.ref p), some (.ref rp), some (.ref D), some (.ref D2), y7, y8, y9, y10] ∧ H' = G3) ⟨_, _, _, _, rfl, rfl⟩ (fun i σ' H' hi hP => ?_) (fun σ' H' hP => ?_)
  · obtain ⟨y7, y8, y9, y10, rfl, rfl⟩ := hP
    have hi1 : i < l.length := by omega
    have ht : l[i]? = some l[i] := List.getElem?_eq_getElem hi1
    generalize l[i] = t at ht
    have hi2 : i < lm.length := by omega
    have hu : lm[i]? = some lm[i] := List.getElem?_eq_getElem hi2
    generalize lm[i] = u at hu
    have htm := List.mem_of_getElem? ht
    have hcm := hc.mem t.2 (List.mem_map_of_mem htm)
    have e2 : ((t.2.1 : Nat) : Int) - ((t.2.2 : Nat) : Int) + 1 = ((t.2.1 - t.2.2 + 1 : Nat) : Int) := by omega
    have euv : u.2 = pcW a t.2 := by
      have := congrArg (fun z => z[i]?) hmm
      simp only [List.getElem?_map, hu, ht, Option.map_some] at this
      exact Option.some.inj this
    have hrow := hr t htm
    have wu := (hA2 u (List.mem_of_getElem? hu)).2
    rw [euv] at wu
    have hxk : atI (l.map fun t => V.ref t.1) (i : Int) = some (.ref t.1) := atI_nat (by rw [List.getElem?_map, ht]; rfl)
    have hxm : atI (rfs lm) (i : Int) = some (.ref u.1) := atI_nat (by rw [rfs, List.getElem?_map, hu]; rfl)
    walk_at "go"
    try (refine g_I (show (0 : Int) ≤ ((t.2.2 : Nat) : Int) by omega) ?_; walk_at "go")
    walk_at "shl"
    walk_at "pos"
    refine g_isWord wu (pc_eq a hcm.1) e2 ?_
    walk_at "go"
    exact ⟨_, _, _, _, rfl, rfl⟩
  · obtain ⟨y7, y8, y9, y10, rfl, rfl⟩ := hP
    walk_at "go"
    refine g_ite (fun e => ?_) (fun e => ?_)
    · walk_at "go"
      refine ⟨rfl, ?_⟩
      walk_at "go"
      have hA5 : At (dA 200) H' [(p, a, (w : Int)), (p, a, (w : Int))] := fun u hu => by
        have : u = (p, a, (w : Int)) := by simpa using hu
        rw [this]
        exact ⟨ha, w1⟩
      refine g_glue hA5 (by simp) (by simp [wsum]; omega) fun r5 G5 nr5 s6 w5 => ?_
      walk_at "go"
      try (refine g_I (shlx ha (by omega) (by omega)) ?_; walk_at "go")
      refine g_isWord w5 (by simp [gl]) (by simp [wsum]; omega) ?_
      walk_at "go"
      exact g_isWord (w1.same s6) rfl rfl (q _ (s.trans s6))
    · walk_at "go"
      exact g_isWord w1 rfl rfl (q _ s)
theorem ok__law_bits_joined (T : Txt K mg dA) (c__law_is_word : C8.Cal P w K mg base 2 "_law_is_word" (spIsWord (dA 200)) []) (c__law_glued_bits : C8.Cal P w K mg base 4 "_law_glued_bits" (spGluedB (dA 200)) []) (m_Word : C8.Mak P w K mg base 1 "Word" (dA 200) (spNew (dA 200)) []) {f : Addr} {fd : FuncData} (F : Fun K "_law_bits_joined" "_law_bits_joined" s__law_bits_joined f fd) : FnOk P w K mg base CX0 5 f fd ["a"] spBits := by
  refine F.ok sc__law_bits_joined (fun vs H Q E h => ?_) (fun cdv A outer s H vs Q E hr h => ?_)
  · obtain ⟨a, rfl, _⟩ := h
    rfl
  obtain ⟨a, rfl, ha, q⟩ := h
  refine ⟨_, (pss_cons (ps_setLc (i := 1) (own := [("k", 2)]) rfl sc__law_bits_joined.nd rfl rfl (sw_true rfl rfl rfl (by decide +kernel)) (pi_range1 (by rfl) T.b_range (pa_cons pe_int pa_nil)) (blkOk_by (own := [("k", 2)]) (N := ["a", "bits", "k"]) (sc := defScope s__law_bits_joined) (by decide +kernel)) (fun _ _ _ _ _ => (pg_name (i := 2) sc__law_bits_joined.nd rfl (.inl rfl))) (fun _ _ _ _ _ => pts_nil) (fun _ _ _ _ _ => (C8.pe_mk m_Word hr (by decide) (by rfl) (pa_cons (pe_op op_and (pe_op op_shr (pv 0) (pe_op op_sub pe_int (pv 2))) pe_int) (pa_cons pe_int pa_nil)))))
      (pss_one (ps_ret (C8.pe_c c__law_is_word hr (by decide) (by rfl) (pa_cons (C8.pe_c c__law_glued_bits hr (by decide) (by rfl) (pa_cons (pv 1) pa_nil)) (pa_cons (pv 0) (pa_cons pe_int pa_nil))))))), ?_⟩
  rw [show (L2.start ["a", "bits", "k"] [.int a] : L2.St) = [some (.int a), none, none] from rfl]
  try simp only [WL.cxK]
  walk_at "go"
  refine f_lcR (by decide) (by decide) (fun D i H' => ∃ l2 : Ws, H' D = some (.lst (rfs l2)) ∧ At (dA 200) H' l2 ∧ l2.map (fun u => u.2) = (List.range i).map (fun k => pcW a (15 - k, 15 - k)) ∧ Same H H') (fun D nD => ⟨[], upd_same, At.nil, rfl, same_new nD⟩) (fun D i H' nD hi hP => ?_) (fun D H' nD hP => ?_)
  · obtain ⟨l2, hD, hA2, hm, s3⟩ := hP
    have hi : i < 16 := hi
    have hl2 : l2.length ≤ 16 := by have := congrArg List.length hm; simp at this; omega
    have hwd := pc_wd (a := a) (p := (15 - i, 15 - i)) (w := 16) (by omega) ⟨Nat.le_refl _, by show 15 - i < 16; omega⟩
    rw [show (((15 - i, 15 - i) : Nat × Nat).1 - ((15 - i, 15 - i) : Nat × Nat).2 + 1 : Nat) = 1 by show 15 - i - (15 - i) + 1 = 1; omega] at hwd
    walk_at "go"
    refine ⟨rfl, ?_⟩
    walk_at "go"
    try (refine g_I (show (0 : Int) ≤ 15 - ((i : Nat) : Int) by omega) ?_; walk_at "go")
    have eb : Builtin.bitAnd (a / 2 ^ (15 - (i : Int)).toNat) 1 = pcV a (15 - i, 15 - i) := by
      rw [bitAnd_m1, show (15 - (i : Int)).toNat = 15 - i by omega]
      unfold pcV
      rw [show (15 - i - (15 - i) + 1 : Nat) = 1 by omega]
      rfl
    rw [eb]
    refine g_newR hwd fun q G nq s4 wq => ?_
    obtain ⟨o1, o2, o3, o4⟩ := comp_end nD hD hA2 s3 s4 hwd wq
    refine ⟨rfs l2, o1, by rw [rfs, List.length_map]; exact small_n hl2, _, o2, o3, ?_, o4⟩
    rw [List.map_append, hm, List.range_succ, List.map_append]
    simp [pcW]
  obtain ⟨lm, hD, hA2, hm, s3⟩ := hP
  have hc : Chain 16 ((List.range 16).map fun k => (15 - k, 15 - k)) 0 := by
    repeat (first | exact rfl | refine ⟨rfl, Nat.le_refl _, ?_⟩)
  have hm' : lm.map (fun u => u.2) = ((List.range 16).map fun k => (15 - k, 15 - k)).map (fun p => (pcV a p, ((p.1 - p.2 + 1 : Nat) : Int))) := by rw [List.map_map]; exact hm
  obtain ⟨hg, hs⟩ := gl_full ha.c ha.d hc hm'
  have hlm := congrArg List.length hm
  rw [List.length_map, List.length_map, List.length_range] at hlm
  walk_at "go"
  refine ⟨D, lm, rfl, hD, hA2, hlm, by rw [hs]; decide, fun r G nr s4 wr => ?_⟩
  walk_at "go"
  exact g_isWord wr hg.symm hs.symm (q _ (s3.trans s4))
theorem ok_law (T : Txt K mg dA) (c__law_plain : C8.Cal P w K mg base 1 "_law_plain" spPlain []) (c__law_box : C8.Cal P w K mg base 2 "_law_box" (spBox K) []) (c__law_value : C8.Cal P w K mg base 2 "_law_value" spValue []) (c__law_second : C8.Cal P w K mg base 3 "_law_second" spSecond []) (c__law_draw : C8.Cal P w K mg base 1 "_law_draw" spDraw []) (c__law_joins : C8.Cal P w K mg base 5 "_law_joins" spJoins []) (c__law_operators : C8.Cal P w K mg base 4 "_law_operators" spTrue3 []) (c__law_alone : C8.Cal P w K mg base 4 "_law_alone" spTrue2 []) (c__law_compared : C8.Cal P w K mg base 3 "_law_compared" spTrue3 []) (c__law_moves : C8.Cal P w K mg base 4 "_law_moves" spTrue2 []) (c__law_bits_joined : C8.Cal P w K mg base 5 "_law_bits_joined" spBits []) {f : Addr} {fd : FuncData} (F : Fun K "law" "law" s_law f fd) : FnOk P w K mg base CX0 6 f fd ["script"] (spLaw K) := by
  refine F.ok sc_law (fun vs H Q E h => ?_) (fun cdv A outer s H vs Q E hr h => ?_)
  · obtain ⟨a, ns, rfl, _⟩ := h
    rfl
  obtain ⟨a, ns, rfl, hS, hl, q⟩ := h
  refine ⟨_, (pss_cons (ps_if (pt_not (pt_val (C8.pe_c c__law_plain hr (by decide) (by rfl) (pa_cons (WOwn.kpe_cval K (C8.pe_gc (by rfl) T.gc_Word)) (pa_cons pe_int pa_nil))))) (pss_one (ps_ret pe_bl)) pss_nil)
      (pss_cons (ps_for PassesOwn.never rfl (pi_range2 (by rfl) T.b_range (pa_cons pe_int (pa_cons pe_int pa_nil))) (pg_name (i := 1) sc_law.nd rfl (.inl rfl)) (pss_cons (ps_set (i := 2) sc_law.nd rfl (.inl rfl) (C8.pe_c c__law_box hr (by decide) (by rfl) (pa_cons (pv 0) (pa_cons (pe_op op_sub (pv 1) pe_int) pa_nil))))
      (pss_cons (ps_set (i := 3) sc_law.nd rfl (.inl rfl) (C8.pe_c c__law_value hr (by decide) (by rfl) (pa_cons (pv 2) (pa_cons (pv 1) pa_nil))))
      (pss_cons (ps_set (i := 4) sc_law.nd rfl (.inl rfl) (C8.pe_c c__law_second hr (by decide) (by rfl) (pa_cons (pv 2) (pa_cons (pv 3) (pa_cons (pv 1) pa_nil)))))
      (pss_cons (ps_set (i := 5) sc_law.nd rfl (.inl rfl) (C8.pe_c c__law_draw hr (by decide) (by rfl) (pa_cons (pv 2) (pa_cons (pe_op op_shl pe_int (pv 1)) pa_nil))))
      (pss_cons (ps_if (PW.pt (pw_or (pt_not (pt_val (C8.pe_c c__law_operators hr (by decide) (by rfl) (pa_cons (pv 3) (pa_cons (pv 4) (pa_cons (pv 1) pa_nil)))))) (pw_or1 (pt_not (pt_val (C8.pe_c c__law_alone hr (by decide) (by rfl) (pa_cons (pv 3) (pa_cons (pv 1) pa_nil)))))))) (pss_one (ps_ret pe_bl)) pss_nil)
      (pss_cons (ps_if (PW.pt (pw_or (pt_not (pt_val (C8.pe_c c__law_compared hr (by decide) (by rfl) (pa_cons (pv 3) (pa_cons (pv 4) (pa_cons (pv 1) pa_nil)))))) (pw_or1 (pt_not (pt_val (C8.pe_c c__law_moves hr (by decide) (by rfl) (pa_cons (pv 3) (pa_cons (pv 1) pa_nil)))))))) (pss_one (ps_ret pe_bl)) pss_nil)
      (pss_cons (ps_if (pt_not (pt_val (C8.pe_c c__law_joins hr (by decide) (by rfl) (pa_cons (pv 3) (pa_cons (pv 1) (pa_cons (pv 5) pa_nil)))))) (pss_one (ps_ret pe_bl)) pss_nil)
      (pss_one (ps_if (PW.pt (pw_and (pt_cmpR op_eq (pv 1) pe_int (nomark _)) (pw_and1 (pt_not (pt_val (C8.pe_c c__law_bits_joined hr (by decide) (by rfl) (pa_cons (pv 3) pa_nil))))))) (pss_one (ps_ret pe_bl)) pss_nil))))))))))
      (pss_one (ps_ret pe_bl)))), ?_⟩
  rw [show (L2.start ["script", "width", "box", "a", "b", "cuts"] [.ref a] : L2.St) = [some (.ref a), none, none, none, none, none] from rfl]
  try simp only [WL.cxK]
  walk_at "go"
  refine WOwn.cvR T.cv_Word_WIDEST ?_
  walk_at "go"
  refine g_plain rfl ?_
  walk_at "go"
  refine ⟨by decide, for_range (fun i σ' H' => ∃ y1 y2 y3 y4 y5, σ' = [some (.ref a), y1, y2, y3, y4, y5] ∧ Same H H') ⟨_, _, _, _, _, rfl, Same.refl H⟩ (fun i σ' H' hi hP => ?_) (fun σ' H' hP => ?_)⟩
  · obtain ⟨y1, y2, y3, y4, y5, rfl, s⟩ := hP
    have hi : i < 16 := hi
    have hS' := s.seq hS
    rw [show (1 : Int) + (i : Nat) = ((i + 1 : Nat) : Int) by omega]
    generalize hw : i + 1 = w
    have w1 : (1 : Int) ≤ (w : Int) := by omega
    have w2 : (w : Int) ≤ 16 := by omega
    have h16 := pow_le16 w2
    have hp := two_pos (w : Int).toNat
    walk_at "go"
    refine ⟨a, ns, _, rfl, hS', hl, by omega, fun b G1 nb s1 hB => ?_⟩
    walk_at "go"
    refine ⟨b, w, rfl, hB, w1, w2, fun v G2 hv k2 hB2 => ?_⟩
    walk_at "go"
    refine ⟨b, v, w, rfl, hB2, hv, fun u G3 hu k3 hB3 => ?_⟩
    walk_at "go"
    walk_at "shl"
    refine g_draw hB3 (by rw [Int.one_mul]; omega) (by rw [Int.one_mul]; omega) fun d G4 d0 d1 k4 hB4 => ?_
    have s4 : Same H G4 := fun c o hc => (k2.trans (k3.trans k4)) c o (s1 _ _ (s _ _ hc)) (ne_of_none (s _ _ hc) nb)
    walk_at "go"
    refine ⟨v, u, w, rfl, hv, hu, fun G5 s5 => ?_⟩
    walk_at "go"
    refine ⟨v, w, rfl, hv, fun G6 s6 => ?_⟩
    walk_at "go"
    refine ⟨v, u, w, rfl, hv, hu, fun G7 s7 => ?_⟩
    walk_at "go"
    refine ⟨v, w, rfl, hv, fun G8 s8 => ?_⟩
    walk_at "go"
    refine ⟨v, w, d, rfl, hv, fun G9 s9 => ?_⟩
    have s10 := s4.trans (s5.trans (s6.trans (s7.trans (s8.trans s9))))
    walk_at "go"
    refine g_iteI (fun e => ?_) (fun e => ?_)
    · walk_at "go"
      refine ⟨v, rfl, by rw [e] at hv; exact hv, fun G10 s11 => ?_⟩
      walk_at "go"
      exact ⟨_, _, _, _, _, rfl, s10.trans s11⟩
    · walk_at "go"
      exact ⟨_, _, _, _, _, rfl, s10⟩
  · obtain ⟨y1, y2, y3, y4, y5, rfl, s⟩ := hP
    walk_at "go"
    exact q _
end K12
set_option Elab.async false
set_option linter.all false
set_option maxRecDepth 100000
set_option maxHeartbeats 4000000
namespace WOwn
open PySem PySem.Spec PyProof.Rows L2
theorem kit_self (K : PySem.W.Frag) (C : Addr) : PySem.W.kitOne K (.ref C) (.ref C) = some true := by
  unfold PySem.W.kitOne
  simp
theorem dn_Add : PySem.dunder Operator.Add.info.2 = ("__add__" : Str) := by first | rfl | decide +kernel
theorem dn_Sub : PySem.dunder Operator.Sub.info.2 = ("__sub__" : Str) := by first | rfl | decide +kernel
theorem dn_BitAnd : PySem.dunder Operator.BitAnd.info.2 = ("__and__" : Str) := by first | rfl | decide +kernel
theorem dn_BitOr : PySem.dunder Operator.BitOr.info.2 = ("__or__" : Str) := by first | rfl | decide +kernel
theorem dn_BitXor : PySem.dunder Operator.BitXor.info.2 = ("__xor__" : Str) := by first | rfl | decide +kernel
theorem dn_LShift : PySem.dunder Operator.LShift.info.2 = ("__lshift__" : Str) := by first | rfl | decide +kernel
theorem dn_RShift : PySem.dunder Operator.RShift.info.2 = ("__rshift__" : Str) := by first | rfl | decide +kernel
theorem dr_LShift : PySem.dunderR Operator.LShift.info.2 = ("__rlshift__" : Str) := by first | rfl | decide +kernel
theorem dr_RShift : PySem.dunderR Operator.RShift.info.2 = ("__rrshift__" : Str) := by first | rfl | decide +kernel
end WOwn
namespace K12
open PySem PySem.Spec PyProof.Rows L2 WL
theorem all_mk {l : PySem.W.OpenLaw} {w : World} {K : PySem.W.Frag} {h : Heap} {mg : Str → Option Value} {fa f0 f1 f2 f3 f4 f5 f6 f7 f8 f9 f10 f11 f12 f13 f14 f15 f16 f17 f18 f19 f20 f21 f22 f23 f24 f25 f26 f27 f28 f29 f30 f31 f32 f33 f34 : Addr} (X : K.In h) (G : h.Ns mainGlobals mg) (hfa : mg "law" = some (.ref fa))
    {od0 an0 od1 an1 od2 an2 od3 an3 od4 an4 od5 an5 od6 an6 od7 an7 od8 an8 od9 an9 od10 an10 od11 an11 od12 an12 od13 an13 od14 an14 od15 an15 od16 an16 od17 an17 od18 an18 od19 an19 od20 an20 od21 an21 od22 an22 od23 an23 od24 an24 od25 an25 od26 an26 od27 an27 od28 an28 od29 an29 od30 an30 od31 an31 od32 an32 od33 an33 od34 an34 : Option Addr} {sl0 sl1 sl2 sl3 sl4 sl5 sl6 sl7 sl8 sl9 sl10 sl11 sl12 sl13 sl14 sl15 sl16 sl17 sl18 sl19 sl20 sl21 sl22 sl23 sl24 sl25 sl26 sl27 sl28 sl29 sl30 sl31 sl32 sl33 sl34 : Array (Option Value)} {oc0 kV0 dc0 pm0 cd0 ct0 oc1 kV1 dc1 pm1 cd1 ct1 oc2 kV2 dc2 pm2 cd2 ct2 oc3 kV3 dc3 pm3 cd3 ct3 oc4 kV4 dc4 pm4 cd4 ct4 oc5 kV5 dc5 pm5 cd5 ct5 oc6 kV6 dc6 pm6 cd6 ct6 oc7 kV7 dc7 pm7 cd7 ct7 oc8 kV8 dc8 pm8 cd8 ct8 oc9 kV9 dc9 pm9 cd9 ct9 oc10 kV10 dc10 pm10 cd10 ct10 oc11 kV11 dc11 pm11 cd11 ct11 oc12 kV12 dc12 pm12 cd12 ct12 oc13 kV13 dc13 pm13 cd13 ct13 oc14 kV14 dc14 pm14 cd14 ct14 oc15 kV15 dc15 pm15 cd15 ct15 oc16 kV16 dc16 pm16 cd16 ct16 oc17 kV17 dc17 pm17 cd17 ct17 oc18 kV18 dc18 pm18 cd18 ct18 oc19 kV19 dc19 pm19 cd19 ct19 oc20 kV20 dc20 pm20 cd20 ct20 oc21 kV21 dc21 pm21 cd21 ct21 oc22 kV22 dc22 pm22 cd22 ct22 oc23 kV23 dc23 pm23 cd23 ct23 oc24 kV24 dc24 pm24 cd24 ct24 oc25 kV25 dc25 pm25 cd25 ct25 oc26 kV26 dc26 pm26 cd26 ct26 oc27 kV27 dc27 pm27 cd27 ct27 oc28 kV28 dc28 pm28 cd28 ct28 oc29 kV29 dc29 pm29 cd29 ct29 oc30 kV30 dc30 pm30 cd30 ct30 oc31 kV31 dc31 pm31 cd31 ct31 oc32 kV32 dc32 pm32 cd32 ct32 oc33 kV33 dc33 pm33 cd33 ct33 oc34 kV34 dc34 pm34 cd34 ct34 : Value}
    {eC_Word : Addr}
    (a0 : PySem.W.findIn K (.ref eC_Word) "__init__" = some (some (.ref f0))) (n0 : PySem.W.isFn K (.ref f0) = true) (l0 : K.lookup f0 = some ⟨oc0, od0, .func (PySem.W.fnOf "__init__" "Word.__init__" (defArgs s_Word___init__) (defBody s_Word___init__) (defScope s_Word___init__) .none kV0 dc0 pm0 an0 cd0 ct0), sl0⟩) (c0 : PySem.W.codeIn K cd0 "Word.__init__" = true) (k0 : PySem.W.keepIn K (.ref f0) = true)
    (a1 : PySem.W.findIn K (.ref eC_Word) "__eq__" = some (some (.ref f1))) (n1 : PySem.W.isFn K (.ref f1) = true) (l1 : K.lookup f1 = some ⟨oc1, od1, .func (PySem.W.fnOf "__eq__" "Word.__eq__" (defArgs s_Word___eq__) (defBody s_Word___eq__) (defScope s_Word___eq__) .none kV1 dc1 pm1 an1 cd1 ct1), sl1⟩) (c1 : PySem.W.codeIn K cd1 "Word.__eq__" = true) (k1 : PySem.W.keepIn K (.ref f1) = true)
    (a2 : PySem.W.findIn K (.ref eC_Word) "__bool__" = some (some (.ref f2))) (n2 : PySem.W.isFn K (.ref f2) = true) (l2 : K.lookup f2 = some ⟨oc2, od2, .func (PySem.W.fnOf "__bool__" "Word.__bool__" (defArgs s_Word___bool__) (defBody s_Word___bool__) (defScope s_Word___bool__) .none kV2 dc2 pm2 an2 cd2 ct2), sl2⟩) (c2 : PySem.W.codeIn K cd2 "Word.__bool__" = true) (k2 : PySem.W.keepIn K (.ref f2) = true)
    (a3 : PySem.W.findIn K (.ref eC_Word) "_match" = some (some (.ref f3))) (n3 : PySem.W.isFn K (.ref f3) = true) (l3 : K.lookup f3 = some ⟨oc3, od3, .func (PySem.W.fnOf "_match" "Word._match" (defArgs s_Word__match) (defBody s_Word__match) (defScope s_Word__match) .none kV3 dc3 pm3 an3 cd3 ct3), sl3⟩) (c3 : PySem.W.codeIn K cd3 "Word._match" = true) (k3 : PySem.W.keepIn K (.ref f3) = true)
    (a4 : PySem.W.findIn K (.ref eC_Word) "_check_shift" = some (some (.ref f4))) (n4 : PySem.W.isFn K (.ref f4) = true) (l4 : K.lookup f4 = some ⟨oc4, od4, .func (PySem.W.fnOf "_check_shift" "Word._check_shift" (defArgs s_Word__check_shift) (defBody s_Word__check_shift) (defScope s_Word__check_shift) .none kV4 dc4 pm4 an4 cd4 ct4), sl4⟩) (c4 : PySem.W.codeIn K cd4 "Word._check_shift" = true) (k4 : PySem.W.keepIn K (.ref f4) = true)
    (a5 : PySem.W.findIn K (.ref eC_Word) "__add__" = some (some (.ref f5))) (n5 : PySem.W.isFn K (.ref f5) = true) (l5 : K.lookup f5 = some ⟨oc5, od5, .func (PySem.W.fnOf "__add__" "Word.__add__" (defArgs s_Word___add__) (defBody s_Word___add__) (defScope s_Word___add__) .none kV5 dc5 pm5 an5 cd5 ct5), sl5⟩) (c5 : PySem.W.codeIn K cd5 "Word.__add__" = true) (k5 : PySem.W.keepIn K (.ref f5) = true)
    (a6 : PySem.W.findIn K (.ref eC_Word) "__sub__" = some (some (.ref f6))) (n6 : PySem.W.isFn K (.ref f6) = true) (l6 : K.lookup f6 = some ⟨oc6, od6, .func (PySem.W.fnOf "__sub__" "Word.__sub__" (defArgs s_Word___sub__) (defBody s_Word___sub__) (defScope s_Word___sub__) .none kV6 dc6 pm6 an6 cd6 ct6), sl6⟩) (c6 : PySem.W.codeIn K cd6 "Word.__sub__" = true) (k6 : PySem.W.keepIn K (.ref f6) = true)
    (a7 : PySem.W.findIn K (.ref eC_Word) "__and__" = some (some (.ref f7))) (n7 : PySem.W.isFn K (.ref f7) = true) (l7 : K.lookup f7 = some ⟨oc7, od7, .func (PySem.W.fnOf "__and__" "Word.__and__" (defArgs s_Word___and__) (defBody s_Word___and__) (defScope s_Word___and__) .none kV7 dc7 pm7 an7 cd7 ct7), sl7⟩) (c7 : PySem.W.codeIn K cd7 "Word.__and__" = true) (k7 : PySem.W.keepIn K (.ref f7) = true)
    (a8 : PySem.W.findIn K (.ref eC_Word) "__or__" = some (some (.ref f8))) (n8 : PySem.W.isFn K (.ref f8) = true) (l8 : K.lookup f8 = some ⟨oc8, od8, .func (PySem.W.fnOf "__or__" "Word.__or__" (defArgs s_Word___or__) (defBody s_Word___or__) (defScope s_Word___or__) .none kV8 dc8 pm8 an8 cd8 ct8), sl8⟩) (c8 : PySem.W.codeIn K cd8 "Word.__or__" = true) (k8 : PySem.W.keepIn K (.ref f8) = true)
    (a9 : PySem.W.findIn K (.ref eC_Word) "__xor__" = some (some (.ref f9))) (n9 : PySem.W.isFn K (.ref f9) = true) (l9 : K.lookup f9 = some ⟨oc9, od9, .func (PySem.W.fnOf "__xor__" "Word.__xor__" (defArgs s_Word___xor__) (defBody s_Word___xor__) (defScope s_Word___xor__) .none kV9 dc9 pm9 an9 cd9 ct9), sl9⟩) (c9 : PySem.W.codeIn K cd9 "Word.__xor__" = true) (k9 : PySem.W.keepIn K (.ref f9) = true)
    (a10 : PySem.W.findIn K (.ref eC_Word) "__neg__" = some (some (.ref f10))) (n10 : PySem.W.isFn K (.ref f10) = true) (l10 : K.lookup f10 = some ⟨oc10, od10, .func (PySem.W.fnOf "__neg__" "Word.__neg__" (defArgs s_Word___neg__) (defBody s_Word___neg__) (defScope s_Word___neg__) .none kV10 dc10 pm10 an10 cd10 ct10), sl10⟩) (c10 : PySem.W.codeIn K cd10 "Word.__neg__" = true) (k10 : PySem.W.keepIn K (.ref f10) = true)
    (a11 : PySem.W.findIn K (.ref eC_Word) "__invert__" = some (some (.ref f11))) (n11 : PySem.W.isFn K (.ref f11) = true) (l11 : K.lookup f11 = some ⟨oc11, od11, .func (PySem.W.fnOf "__invert__" "Word.__invert__" (defArgs s_Word___invert__) (defBody s_Word___invert__) (defScope s_Word___invert__) .none kV11 dc11 pm11 an11 cd11 ct11), sl11⟩) (c11 : PySem.W.codeIn K cd11 "Word.__invert__" = true) (k11 : PySem.W.keepIn K (.ref f11) = true)
    (a12 : PySem.W.findIn K (.ref eC_Word) "__lshift__" = some (some (.ref f12))) (n12 : PySem.W.isFn K (.ref f12) = true) (l12 : K.lookup f12 = some ⟨oc12, od12, .func (PySem.W.fnOf "__lshift__" "Word.__lshift__" (defArgs s_Word___lshift__) (defBody s_Word___lshift__) (defScope s_Word___lshift__) .none kV12 dc12 pm12 an12 cd12 ct12), sl12⟩) (c12 : PySem.W.codeIn K cd12 "Word.__lshift__" = true) (k12 : PySem.W.keepIn K (.ref f12) = true)
    (a13 : PySem.W.findIn K (.ref eC_Word) "__rshift__" = some (some (.ref f13))) (n13 : PySem.W.isFn K (.ref f13) = true) (l13 : K.lookup f13 = some ⟨oc13, od13, .func (PySem.W.fnOf "__rshift__" "Word.__rshift__" (defArgs s_Word___rshift__) (defBody s_Word___rshift__) (defScope s_Word___rshift__) .none kV13 dc13 pm13 an13 cd13 ct13), sl13⟩) (c13 : PySem.W.codeIn K cd13 "Word.__rshift__" = true) (k13 : PySem.W.keepIn K (.ref f13) = true)
    (a14 : PySem.W.findIn K (.ref eC_Word) "below" = some (some (.ref f14))) (n14 : PySem.W.isFn K (.ref f14) = true) (l14 : K.lookup f14 = some ⟨oc14, od14, .func (PySem.W.fnOf "below" "Word.below" (defArgs s_Word_below) (defBody s_Word_below) (defScope s_Word_below) .none kV14 dc14 pm14 an14 cd14 ct14), sl14⟩) (c14 : PySem.W.codeIn K cd14 "Word.below" = true) (k14 : PySem.W.keepIn K (.ref f14) = true)
    (a15 : PySem.W.findIn K (.ref eC_Word) "part" = some (some (.ref f15))) (n15 : PySem.W.isFn K (.ref f15) = true) (l15 : K.lookup f15 = some ⟨oc15, od15, .func (PySem.W.fnOf "part" "Word.part" (defArgs s_Word_part) (defBody s_Word_part) (defScope s_Word_part) .none kV15 dc15 pm15 an15 cd15 ct15), sl15⟩) (c15 : PySem.W.codeIn K cd15 "Word.part" = true) (k15 : PySem.W.keepIn K (.ref f15) = true)
    {p16 : Addr} {re16 : List Value} (a16 : PySem.W.findCls K (.ref eC_Word) (.type "type") "glue" = some (.get (.builtin "staticmethod.__get__") (.ref p16) .none (.ref eC_Word))) (r16 : PySem.W.recIn K p16 "staticmethod" = some (.ref f16 :: re16)) (l16 : K.lookup f16 = some ⟨oc16, od16, .func (PySem.W.fnOf "glue" "Word.glue" (defArgs s_Word_glue) (defBody s_Word_glue) (defScope s_Word_glue) .none kV16 dc16 pm16 an16 cd16 ct16), sl16⟩) (c16 : PySem.W.codeIn K cd16 "Word.glue" = true) (k16 : PySem.W.keepIn K (.ref f16) = true)
    (a17 : PySem.W.nsIn K mainGlobals "_law_number" = some (some (.ref f17))) (l17 : K.lookup f17 = some ⟨oc17, od17, .func (PySem.W.fnOf "_law_number" "_law_number" (defArgs s__law_number) (defBody s__law_number) (defScope s__law_number) .none kV17 dc17 pm17 an17 cd17 ct17), sl17⟩) (c17 : PySem.W.codeIn K cd17 "_law_number" = true) (k17 : PySem.W.keepIn K (.ref f17) = true)
    (a18 : PySem.W.nsIn K mainGlobals "_law_box" = some (some (.ref f18))) (l18 : K.lookup f18 = some ⟨oc18, od18, .func (PySem.W.fnOf "_law_box" "_law_box" (defArgs s__law_box) (defBody s__law_box) (defScope s__law_box) .none kV18 dc18 pm18 an18 cd18 ct18), sl18⟩) (c18 : PySem.W.codeIn K cd18 "_law_box" = true) (k18 : PySem.W.keepIn K (.ref f18) = true)
    (a19 : PySem.W.nsIn K mainGlobals "_law_draw" = some (some (.ref f19))) (l19 : K.lookup f19 = some ⟨oc19, od19, .func (PySem.W.fnOf "_law_draw" "_law_draw" (defArgs s__law_draw) (defBody s__law_draw) (defScope s__law_draw) .none kV19 dc19 pm19 an19 cd19 ct19), sl19⟩) (c19 : PySem.W.codeIn K cd19 "_law_draw" = true) (k19 : PySem.W.keepIn K (.ref f19) = true)
    (a20 : PySem.W.nsIn K mainGlobals "_law_value" = some (some (.ref f20))) (l20 : K.lookup f20 = some ⟨oc20, od20, .func (PySem.W.fnOf "_law_value" "_law_value" (defArgs s__law_value) (defBody s__law_value) (defScope s__law_value) .none kV20 dc20 pm20 an20 cd20 ct20), sl20⟩) (c20 : PySem.W.codeIn K cd20 "_law_value" = true) (k20 : PySem.W.keepIn K (.ref f20) = true)
    (a21 : PySem.W.nsIn K mainGlobals "_law_second" = some (some (.ref f21))) (l21 : K.lookup f21 = some ⟨oc21, od21, .func (PySem.W.fnOf "_law_second" "_law_second" (defArgs s__law_second) (defBody s__law_second) (defScope s__law_second) .none kV21 dc21 pm21 an21 cd21 ct21), sl21⟩) (c21 : PySem.W.codeIn K cd21 "_law_second" = true) (k21 : PySem.W.keepIn K (.ref f21) = true)
    (a22 : PySem.W.nsIn K mainGlobals "_law_plain" = some (some (.ref f22))) (l22 : K.lookup f22 = some ⟨oc22, od22, .func (PySem.W.fnOf "_law_plain" "_law_plain" (defArgs s__law_plain) (defBody s__law_plain) (defScope s__law_plain) .none kV22 dc22 pm22 an22 cd22 ct22), sl22⟩) (c22 : PySem.W.codeIn K cd22 "_law_plain" = true) (k22 : PySem.W.keepIn K (.ref f22) = true)
    (a23 : PySem.W.nsIn K mainGlobals "_law_is_word" = some (some (.ref f23))) (l23 : K.lookup f23 = some ⟨oc23, od23, .func (PySem.W.fnOf "_law_is_word" "_law_is_word" (defArgs s__law_is_word) (defBody s__law_is_word) (defScope s__law_is_word) .none kV23 dc23 pm23 an23 cd23 ct23), sl23⟩) (c23 : PySem.W.codeIn K cd23 "_law_is_word" = true) (k23 : PySem.W.keepIn K (.ref f23) = true)
    (a24 : PySem.W.nsIn K mainGlobals "_law_truth" = some (some (.ref f24))) (l24 : K.lookup f24 = some ⟨oc24, od24, .func (PySem.W.fnOf "_law_truth" "_law_truth" (defArgs s__law_truth) (defBody s__law_truth) (defScope s__law_truth) .none kV24 dc24 pm24 an24 cd24 ct24), sl24⟩) (c24 : PySem.W.codeIn K cd24 "_law_truth" = true) (k24 : PySem.W.keepIn K (.ref f24) = true)
    (a25 : PySem.W.nsIn K mainGlobals "_law_operators" = some (some (.ref f25))) (l25 : K.lookup f25 = some ⟨oc25, od25, .func (PySem.W.fnOf "_law_operators" "_law_operators" (defArgs s__law_operators) (defBody s__law_operators) (defScope s__law_operators) .none kV25 dc25 pm25 an25 cd25 ct25), sl25⟩) (c25 : PySem.W.codeIn K cd25 "_law_operators" = true) (k25 : PySem.W.keepIn K (.ref f25) = true)
    (a26 : PySem.W.nsIn K mainGlobals "_law_alone" = some (some (.ref f26))) (l26 : K.lookup f26 = some ⟨oc26, od26, .func (PySem.W.fnOf "_law_alone" "_law_alone" (defArgs s__law_alone) (defBody s__law_alone) (defScope s__law_alone) .none kV26 dc26 pm26 an26 cd26 ct26), sl26⟩) (c26 : PySem.W.codeIn K cd26 "_law_alone" = true) (k26 : PySem.W.keepIn K (.ref f26) = true)
    (a27 : PySem.W.nsIn K mainGlobals "_law_compared" = some (some (.ref f27))) (l27 : K.lookup f27 = some ⟨oc27, od27, .func (PySem.W.fnOf "_law_compared" "_law_compared" (defArgs s__law_compared) (defBody s__law_compared) (defScope s__law_compared) .none kV27 dc27 pm27 an27 cd27 ct27), sl27⟩) (c27 : PySem.W.codeIn K cd27 "_law_compared" = true) (k27 : PySem.W.keepIn K (.ref f27) = true)
    (a28 : PySem.W.nsIn K mainGlobals "_law_moves" = some (some (.ref f28))) (l28 : K.lookup f28 = some ⟨oc28, od28, .func (PySem.W.fnOf "_law_moves" "_law_moves" (defArgs s__law_moves) (defBody s__law_moves) (defScope s__law_moves) .none kV28 dc28 pm28 an28 cd28 ct28), sl28⟩) (c28 : PySem.W.codeIn K cd28 "_law_moves" = true) (k28 : PySem.W.keepIn K (.ref f28) = true)
    (a29 : PySem.W.nsIn K mainGlobals "_law_pieces" = some (some (.ref f29))) (l29 : K.lookup f29 = some ⟨oc29, od29, .func (PySem.W.fnOf "_law_pieces" "_law_pieces" (defArgs s__law_pieces) (defBody s__law_pieces) (defScope s__law_pieces) .none kV29 dc29 pm29 an29 cd29 ct29), sl29⟩) (c29 : PySem.W.codeIn K cd29 "_law_pieces" = true) (k29 : PySem.W.keepIn K (.ref f29) = true)
    (a30 : PySem.W.nsIn K mainGlobals "_law_glued" = some (some (.ref f30))) (l30 : K.lookup f30 = some ⟨oc30, od30, .func (PySem.W.fnOf "_law_glued" "_law_glued" (defArgs s__law_glued) (defBody s__law_glued) (defScope s__law_glued) .none kV30 dc30 pm30 an30 cd30 ct30), sl30⟩) (c30 : PySem.W.codeIn K cd30 "_law_glued" = true) (k30 : PySem.W.keepIn K (.ref f30) = true)
    (a31 : PySem.W.nsIn K mainGlobals "_law_glued_bits" = some (some (.ref f31))) (l31 : K.lookup f31 = some ⟨oc31, od31, .func (PySem.W.fnOf "_law_glued_bits" "_law_glued_bits" (defArgs s__law_glued_bits) (defBody s__law_glued_bits) (defScope s__law_glued_bits) .none kV31 dc31 pm31 an31 cd31 ct31), sl31⟩) (c31 : PySem.W.codeIn K cd31 "_law_glued_bits" = true) (k31 : PySem.W.keepIn K (.ref f31) = true)
    (a32 : PySem.W.nsIn K mainGlobals "_law_joins" = some (some (.ref f32))) (l32 : K.lookup f32 = some ⟨oc32, od32, .func (PySem.W.fnOf "_law_joins" "_law_joins" (defArgs s__law_joins) (defBody s__law_joins) (defScope s__law_joins) .none kV32 dc32 pm32 an32 cd32 ct32), sl32⟩) (c32 : PySem.W.codeIn K cd32 "_law_joins" = true) (k32 : PySem.W.keepIn K (.ref f32) = true)
    (a33 : PySem.W.nsIn K mainGlobals "_law_bits_joined" = some (some (.ref f33))) (l33 : K.lookup f33 = some ⟨oc33, od33, .func (PySem.W.fnOf "_law_bits_joined" "_law_bits_joined" (defArgs s__law_bits_joined) (defBody s__law_bits_joined) (defScope s__law_bits_joined) .none kV33 dc33 pm33 an33 cd33 ct33), sl33⟩) (c33 : PySem.W.codeIn K cd33 "_law_bits_joined" = true) (k33 : PySem.W.keepIn K (.ref f33) = true)
    (a34 : PySem.W.nsIn K mainGlobals "law" = some (some (.ref f34))) (l34 : K.lookup f34 = some ⟨oc34, od34, .func (PySem.W.fnOf "law" "law" (defArgs s_law) (defBody s_law) (defScope s_law) .none kV34 dc34 pm34 an34 cd34 ct34), sl34⟩) (c34 : PySem.W.codeIn K cd34 "law" = true) (k34 : PySem.W.keepIn K (.ref f34) = true)
    (z_abs : PySem.W.nsIn K mainGlobals "abs" = some none)
    (z_bool : PySem.W.nsIn K mainGlobals "bool" = some none)
    (z_int : PySem.W.nsIn K mainGlobals "int" = some none)
    (z_isinstance : PySem.W.nsIn K mainGlobals "isinstance" = some none)
    (z_len : PySem.W.nsIn K mainGlobals "len" = some none)
    (z_range : PySem.W.nsIn K mainGlobals "range" = some none)
    (z_str : PySem.W.nsIn K mainGlobals "str" = some none)
    (z_sum : PySem.W.nsIn K mainGlobals "sum" = some none)
    (xhn : PySem.W.specialIn K (.builtin "object.__class__") "__get__" = some (some (.builtin "getset_descriptor.__get__")))
    (xht : PySem.W.takesIn K (.builtin "object.__class__") = some true)
    (xa_Word : PySem.W.nsIn K mainGlobals "Word" = some (some (.ref eC_Word)))
    (pg_Word : PySem.W.plainGet K eC_Word Str.empty = true)
    (hd_Word : PySem.W.hasDictIn K eC_Word = true)
    (po_Word : PySem.W.plainOver K eC_Word = true)
    (sa_Word : PySem.W.findIn K (.ref eC_Word) "__setattr__" = some (some (.builtin "object.__setattr__")))
    (mk_Word : PySem.W.makesIn K eC_Word = true)
    (xk_Word : PySem.W.keepIn K (.ref eC_Word) = true)
    (xcl_Word : PySem.W.findIn K (.ref eC_Word) "__class__" = some (some (.builtin "object.__class__")))
    (xm_Word : PySem.W.mroIn K eC_Word (.type "object") = some true)
    (xj_Word : PySem.W.isClsIn K eC_Word = true)
    (xy_Word : PySem.W.typeIn K (.ref eC_Word) = some (.type "type"))
    (sf_Word : PySem.W.selfFirst K eC_Word = true)
    (rd_Word : PySem.W.readsIn K eC_Word (.type "type") = true)
    (ga_Word : PySem.W.specialIn K (.ref eC_Word) "__getattribute__" = some (some (.builtin "type.__getattribute__")))
    (es0_Word : PySem.W.subIn K (.type "NoneType") (.ref eC_Word) = some false)
    (es1_Word : PySem.W.subIn K (.type "int") (.ref eC_Word) = some false)
    (es2_Word : PySem.W.subIn K (.type "bool") (.ref eC_Word) = some false)
    (es3_Word : PySem.W.subIn K (.type "str") (.ref eC_Word) = some false)
    (es4_Word : PySem.W.subIn K (.type "list") (.ref eC_Word) = some false)
    (es5_Word : PySem.W.subIn K (.type "tuple") (.ref eC_Word) = some false)
    (es6_Word : PySem.W.subIn K (.type "dict") (.ref eC_Word) = some false)
    (em0_Word : PySem.W.mroIn K eC_Word (.type "NoneType") = some false)
    (em1_Word : PySem.W.mroIn K eC_Word (.type "int") = some false)
    (em2_Word : PySem.W.mroIn K eC_Word (.type "bool") = some false)
    (em3_Word : PySem.W.mroIn K eC_Word (.type "str") = some false)
    (em4_Word : PySem.W.mroIn K eC_Word (.type "list") = some false)
    (em5_Word : PySem.W.mroIn K eC_Word (.type "tuple") = some false)
    (em6_Word : PySem.W.mroIn K eC_Word (.type "dict") = some false)
    (nf_value_Word : PySem.W.findIn K (.ref eC_Word) "value" = some none)
    (nf_width_Word : PySem.W.findIn K (.ref eC_Word) "width" = some none)
    {tcv_Word_WIDEST : Tok} (cv_Word_WIDEST : PySem.W.findCls K (.ref eC_Word) (.type "type") "WIDEST" = some (.val (.int 16 tcv_Word_WIDEST)))
    {fo_LShift ro_LShift : Option Value} (oa_LShift : PySem.W.findIn K (.ref eC_Word) "__rlshift__" = some none) (ob_LShift : PySem.W.findIn K (.type "int") "__lshift__" = some fo_LShift) (oc_LShift : PySem.W.findIn K (.type "int") "__rlshift__" = some ro_LShift)
    {fo_RShift ro_RShift : Option Value} (oa_RShift : PySem.W.findIn K (.ref eC_Word) "__rrshift__" = some none) (ob_RShift : PySem.W.findIn K (.type "int") "__rshift__" = some fo_RShift) (oc_RShift : PySem.W.findIn K (.type "int") "__rrshift__" = some ro_RShift)
    : ∃ fd : FuncData, (∀ (s : Shared) (v : Value), BindsTo s fd ⟨[v], []⟩ [("script", v)]) ∧ ∀ base : Heap, K.In base → base.Ns mainGlobals mg → FnOk l.prog w K mg base CX0 6 fa fd ["script"] (spLaw K) := by
  have e := hfa.symm.trans (PySem.W.mg_of X G a34)
  cases e
  have T : Txt K mg (fun n => match n with | 200 => eC_Word | _ => 0) := ⟨PySem.W.mg_none_of X G z_abs, PySem.W.mg_none_of X G z_bool, PySem.W.mg_none_of X G z_int, PySem.W.mg_none_of X G z_isinstance, PySem.W.mg_none_of X G z_len, PySem.W.mg_none_of X G z_range, PySem.W.mg_none_of X G z_str, PySem.W.mg_none_of X G z_sum, PySem.W.mg_of X G xa_Word, ⟨_, PySem.W.mg_of X G xa_Word, rfl⟩, ⟨pg_Word, hd_Word, po_Word, sa_Word⟩, ⟨⟨pg_Word, hd_Word, po_Word, sa_Word⟩, xcl_Word, xhn, xht, xm_Word, WOwn.kit_self K _⟩, WOwn.eqK_of es0_Word es1_Word es2_Word es3_Word es4_Word es5_Word es6_Word em0_Word em1_Word em2_Word em3_Word em4_Word em5_Word em6_Word, xj_Word, xy_Word, nf_value_Word, nf_width_Word, ⟨_, _, ⟨rd_Word, ga_Word⟩, ⟨cv_Word_WIDEST, ⟨_, rfl⟩⟩⟩, ⟨⟨_, by rw [WOwn.dr_LShift]; exact oa_LShift, .inl rfl⟩, ⟨_, by rw [WOwn.dn_LShift]; exact ob_LShift⟩, ⟨_, by rw [WOwn.dr_LShift]; exact oc_LShift⟩, es1_Word⟩, ⟨⟨_, by rw [WOwn.dr_RShift]; exact oa_RShift, .inl rfl⟩, ⟨_, by rw [WOwn.dn_RShift]; exact ob_RShift⟩, ⟨_, by rw [WOwn.dr_RShift]; exact oc_RShift⟩, es1_Word⟩⟩
  have F0 := fun_mk (st := s_Word___init__) l0 c0 k0
  have F1 := fun_mk (st := s_Word___eq__) l1 c1 k1
  have F2 := fun_mk (st := s_Word___bool__) l2 c2 k2
  have F3 := fun_mk (st := s_Word__match) l3 c3 k3
  have F4 := fun_mk (st := s_Word__check_shift) l4 c4 k4
  have F5 := fun_mk (st := s_Word___add__) l5 c5 k5
  have F6 := fun_mk (st := s_Word___sub__) l6 c6 k6
  have F7 := fun_mk (st := s_Word___and__) l7 c7 k7
  have F8 := fun_mk (st := s_Word___or__) l8 c8 k8
  have F9 := fun_mk (st := s_Word___xor__) l9 c9 k9
  have F10 := fun_mk (st := s_Word___neg__) l10 c10 k10
  have F11 := fun_mk (st := s_Word___invert__) l11 c11 k11
  have F12 := fun_mk (st := s_Word___lshift__) l12 c12 k12
  have F13 := fun_mk (st := s_Word___rshift__) l13 c13 k13
  have F14 := fun_mk (st := s_Word_below) l14 c14 k14
  have F15 := fun_mk (st := s_Word_part) l15 c15 k15
  have F16 := fun_mk (st := s_Word_glue) l16 c16 k16
  have F17 := fun_mk (st := s__law_number) l17 c17 k17
  have F18 := fun_mk (st := s__law_box) l18 c18 k18
  have F19 := fun_mk (st := s__law_draw) l19 c19 k19
  have F20 := fun_mk (st := s__law_value) l20 c20 k20
  have F21 := fun_mk (st := s__law_second) l21 c21 k21
  have F22 := fun_mk (st := s__law_plain) l22 c22 k22
  have F23 := fun_mk (st := s__law_is_word) l23 c23 k23
  have F24 := fun_mk (st := s__law_truth) l24 c24 k24
  have F25 := fun_mk (st := s__law_operators) l25 c25 k25
  have F26 := fun_mk (st := s__law_alone) l26 c26 k26
  have F27 := fun_mk (st := s__law_compared) l27 c27 k27
  have F28 := fun_mk (st := s__law_moves) l28 c28 k28
  have F29 := fun_mk (st := s__law_pieces) l29 c29 k29
  have F30 := fun_mk (st := s__law_glued) l30 c30 k30
  have F31 := fun_mk (st := s__law_glued_bits) l31 c31 k31
  have F32 := fun_mk (st := s__law_joins) l32 c32 k32
  have F33 := fun_mk (st := s__law_bits_joined) l33 c33 k33
  have F34 := fun_mk (st := s_law) l34 c34 k34
  have b0 := F0.binds (ps := ["self", "value", "width"]) fun _ _ _ _ _ _ us hl => match us, hl with | [_, _, _], _ => rfl
  have b1 := F1.binds (ps := ["self", "other"]) fun _ _ _ _ _ _ us hl => match us, hl with | [_, _], _ => rfl
  have b2 := F2.binds (ps := ["self"]) fun _ _ _ _ _ _ us hl => match us, hl with | [_], _ => rfl
  have b3 := F3.binds (ps := ["self", "other"]) fun _ _ _ _ _ _ us hl => match us, hl with | [_, _], _ => rfl
  have b4 := F4.binds (ps := ["self", "by"]) fun _ _ _ _ _ _ us hl => match us, hl with | [_, _], _ => rfl
  have b5 := F5.binds (ps := ["self", "other"]) fun _ _ _ _ _ _ us hl => match us, hl with | [_, _], _ => rfl
  have b6 := F6.binds (ps := ["self", "other"]) fun _ _ _ _ _ _ us hl => match us, hl with | [_, _], _ => rfl
  have b7 := F7.binds (ps := ["self", "other"]) fun _ _ _ _ _ _ us hl => match us, hl with | [_, _], _ => rfl
  have b8 := F8.binds (ps := ["self", "other"]) fun _ _ _ _ _ _ us hl => match us, hl with | [_, _], _ => rfl
  have b9 := F9.binds (ps := ["self", "other"]) fun _ _ _ _ _ _ us hl => match us, hl with | [_, _], _ => rfl
  have b10 := F10.binds (ps := ["self"]) fun _ _ _ _ _ _ us hl => match us, hl with | [_], _ => rfl
  have b11 := F11.binds (ps := ["self"]) fun _ _ _ _ _ _ us hl => match us, hl with | [_], _ => rfl
  have b12 := F12.binds (ps := ["self", "by"]) fun _ _ _ _ _ _ us hl => match us, hl with | [_, _], _ => rfl
  have b13 := F13.binds (ps := ["self", "by"]) fun _ _ _ _ _ _ us hl => match us, hl with | [_, _], _ => rfl
  have b14 := F14.binds (ps := ["self", "other"]) fun _ _ _ _ _ _ us hl => match us, hl with | [_, _], _ => rfl
  have b15 := F15.binds (ps := ["self", "high", "low"]) fun _ _ _ _ _ _ us hl => match us, hl with | [_, _, _], _ => rfl
  have b17 := F17.binds (ps := ["script", "place"]) fun _ _ _ _ _ _ us hl => match us, hl with | [_, _], _ => rfl
  have b18 := F18.binds (ps := ["script", "place"]) fun _ _ _ _ _ _ us hl => match us, hl with | [_, _], _ => rfl
  have b19 := F19.binds (ps := ["box", "many"]) fun _ _ _ _ _ _ us hl => match us, hl with | [_, _], _ => rfl
  have b20 := F20.binds (ps := ["box", "width"]) fun _ _ _ _ _ _ us hl => match us, hl with | [_, _], _ => rfl
  have b21 := F21.binds (ps := ["box", "a", "width"]) fun _ _ _ _ _ _ us hl => match us, hl with | [_, _, _], _ => rfl
  have b22 := F22.binds (ps := ["found", "due"]) fun _ _ _ _ _ _ us hl => match us, hl with | [_, _], _ => rfl
  have b23 := F23.binds (ps := ["found", "value", "width"]) fun _ _ _ _ _ _ us hl => match us, hl with | [_, _, _], _ => rfl
  have b24 := F24.binds (ps := ["found", "due"]) fun _ _ _ _ _ _ us hl => match us, hl with | [_, _], _ => rfl
  have b25 := F25.binds (ps := ["a", "b", "width"]) fun _ _ _ _ _ _ us hl => match us, hl with | [_, _, _], _ => rfl
  have b26 := F26.binds (ps := ["a", "width"]) fun _ _ _ _ _ _ us hl => match us, hl with | [_, _], _ => rfl
  have b27 := F27.binds (ps := ["a", "b", "width"]) fun _ _ _ _ _ _ us hl => match us, hl with | [_, _, _], _ => rfl
  have b28 := F28.binds (ps := ["a", "width"]) fun _ _ _ _ _ _ us hl => match us, hl with | [_, _], _ => rfl
  have b29 := F29.binds (ps := ["width", "cuts"]) fun _ _ _ _ _ _ us hl => match us, hl with | [_, _], _ => rfl
  have b30 := F30.binds (ps := ["words"]) fun _ _ _ _ _ _ us hl => match us, hl with | [_], _ => rfl
  have b31 := F31.binds (ps := ["x"]) fun _ _ _ _ _ _ us hl => match us, hl with | [_], _ => rfl
  have b32 := F32.binds (ps := ["a", "width", "cuts"]) fun _ _ _ _ _ _ us hl => match us, hl with | [_, _, _], _ => rfl
  have b33 := F33.binds (ps := ["a"]) fun _ _ _ _ _ _ us hl => match us, hl with | [_], _ => rfl
  refine ⟨PySem.W.fnOf "law" "law" (defArgs s_law) (defBody s_law) (defScope s_law) .none kV34 dc34 pm34 an34 cd34 ct34, fun s v => .of_eq rfl, fun base _ _ => ?_⟩
  have c__law_plain : C8.Cal l.prog w K mg base 1 "_law_plain" spPlain [] := ⟨_, _, ["found", "due"], [], ok__law_plain T  F22, PySem.W.mg_of X G a22, k22, b22, .nil⟩
  have c__law_number : C8.Cal l.prog w K mg base 1 "_law_number" (spNumber K) [] := ⟨_, _, ["script", "place"], [], ok__law_number T  F17, PySem.W.mg_of X G a17, k17, b17, .nil⟩
  have c__law_box : C8.Cal l.prog w K mg base 2 "_law_box" (spBox K) [] := ⟨_, _, ["script", "place"], [], ok__law_box T c__law_number F18, PySem.W.mg_of X G a18, k18, b18, .nil⟩
  have c__law_draw : C8.Cal l.prog w K mg base 1 "_law_draw" spDraw [] := ⟨_, _, ["box", "many"], [], ok__law_draw T  F19, PySem.W.mg_of X G a19, k19, b19, .nil⟩
  have c__law_value : C8.Cal l.prog w K mg base 2 "_law_value" spValue [] := ⟨_, _, ["box", "width"], [], ok__law_value T c__law_draw F20, PySem.W.mg_of X G a20, k20, b20, .nil⟩
  have c__law_second : C8.Cal l.prog w K mg base 3 "_law_second" spSecond [] := ⟨_, _, ["box", "a", "width"], [], ok__law_second T c__law_draw c__law_value F21, PySem.W.mg_of X G a21, k21, b21, .nil⟩
  have c__law_pieces : C8.Cal l.prog w K mg base 1 "_law_pieces" spPieces [] := ⟨_, _, ["width", "cuts"], [], ok__law_pieces T  F29, PySem.W.mg_of X G a29, k29, b29, .nil⟩
  have c__law_is_word : C8.Cal l.prog w K mg base 2 "_law_is_word" (spIsWord eC_Word) [] := ⟨_, _, ["found", "value", "width"], [], ok__law_is_word T c__law_plain F23, PySem.W.mg_of X G a23, k23, b23, .nil⟩
  have m_Word : C8.Mak l.prog w K mg base 1 "Word" eC_Word (spNew eC_Word) [] := ⟨⟨_, _, ["self", "value", "width"], [], ⟨mk_Word, a0, n0, xk_Word⟩, ok_Word___init__ T  F0, PySem.W.mg_of X G xa_Word, b0, .nil⟩⟩
  have sm_Word_glue : WOwn.StM l.prog w K mg base CX0 3 eC_Word "glue" (spGlue eC_Word) := ⟨⟨_, _, ⟨⟨_, ⟨rd_Word, ga_Word⟩, a16⟩, ⟨_, r16⟩, k16⟩, ok_glue T m_Word F16⟩⟩
  have c__law_glued : C8.Cal l.prog w K mg base 4 "_law_glued" (spGlued eC_Word) [] := ⟨_, _, ["words"], [], ok__law_glued T sm_Word_glue F30, PySem.W.mg_of X G a30, k30, b30, .nil⟩
  have c_Word_part : C8.Met l.prog w K mg base 3 eC_Word "part" (spPart eC_Word) [] := ⟨⟨_, _, ["self", "high", "low"], [], T.cl_Word, ⟨a15, n15, k15⟩, ok_Word_part T m_Word F15, b15, .nil⟩⟩
  have c__law_joins : C8.Cal l.prog w K mg base 5 "_law_joins" spJoins [] := ⟨_, _, ["a", "width", "cuts"], [], ok__law_joins T c__law_pieces c__law_is_word c__law_glued m_Word c_Word_part sm_Word_glue F32, PySem.W.mg_of X G a32, k32, b32, .nil⟩
  have c_Word__match : C8.Met l.prog w K mg base 1 eC_Word "_match" (spMatch eC_Word) [] := ⟨⟨_, _, ["self", "other"], [], T.cl_Word, ⟨a3, n3, k3⟩, ok_Word__match T  F3, b3, .nil⟩⟩
  have o_Word___add__ : WOwn.OpM l.prog w K mg base CX0 3 eC_Word (PySem.dunder Operator.Add.info.2) (spBin eC_Word fAdd) := ⟨⟨_, _, ["self", "other"], ⟨by rw [WOwn.dn_Add]; exact a5, n5, sf_Word⟩, ok_Word___add__ T c_Word__match m_Word F5, b5⟩⟩
  have o_Word___sub__ : WOwn.OpM l.prog w K mg base CX0 3 eC_Word (PySem.dunder Operator.Sub.info.2) (spBin eC_Word fSub) := ⟨⟨_, _, ["self", "other"], ⟨by rw [WOwn.dn_Sub]; exact a6, n6, sf_Word⟩, ok_Word___sub__ T c_Word__match m_Word F6, b6⟩⟩
  have o_Word___or__ : WOwn.OpM l.prog w K mg base CX0 3 eC_Word (PySem.dunder Operator.BitOr.info.2) (spBin eC_Word fOr) := ⟨⟨_, _, ["self", "other"], ⟨by rw [WOwn.dn_BitOr]; exact a8, n8, sf_Word⟩, ok_Word___or__ T c_Word__match m_Word F8, b8⟩⟩
  have o_Word___and__ : WOwn.OpM l.prog w K mg base CX0 3 eC_Word (PySem.dunder Operator.BitAnd.info.2) (spBin eC_Word fAnd) := ⟨⟨_, _, ["self", "other"], ⟨by rw [WOwn.dn_BitAnd]; exact a7, n7, sf_Word⟩, ok_Word___and__ T c_Word__match m_Word F7, b7⟩⟩
  have o_Word___invert__ : WOwn.OpM l.prog w K mg base CX0 3 eC_Word "__invert__" (spUn eC_Word fInv) := ⟨⟨_, _, ["self"], ⟨a11, n11, sf_Word⟩, ok_Word___invert__ T m_Word F11, b11⟩⟩
  have o_Word___xor__ : WOwn.OpM l.prog w K mg base CX0 3 eC_Word (PySem.dunder Operator.BitXor.info.2) (spBin eC_Word fXor) := ⟨⟨_, _, ["self", "other"], ⟨by rw [WOwn.dn_BitXor]; exact a9, n9, sf_Word⟩, ok_Word___xor__ T c_Word__match m_Word F9, b9⟩⟩
  have o_Word___neg__ : WOwn.OpM l.prog w K mg base CX0 3 eC_Word "__neg__" (spUn eC_Word fNeg) := ⟨⟨_, _, ["self"], ⟨a10, n10, sf_Word⟩, ok_Word___neg__ T m_Word F10, b10⟩⟩
  have c__law_operators : C8.Cal l.prog w K mg base 4 "_law_operators" spTrue3 [] := ⟨_, _, ["a", "b", "width"], [], ok__law_operators T c__law_is_word m_Word o_Word___add__ o_Word___sub__ o_Word___or__ o_Word___and__ o_Word___invert__ o_Word___xor__ o_Word___neg__ F25, PySem.W.mg_of X G a25, k25, b25, .nil⟩
  have c__law_truth : C8.Cal l.prog w K mg base 1 "_law_truth" spTruth [] := ⟨_, _, ["found", "due"], [], ok__law_truth T  F24, PySem.W.mg_of X G a24, k24, b24, .nil⟩
  have c_Word_below : C8.Met l.prog w K mg base 2 eC_Word "below" (spBelow eC_Word) [] := ⟨⟨_, _, ["self", "other"], [], T.cl_Word, ⟨a14, n14, k14⟩, ok_Word_below T c_Word__match F14, b14, .nil⟩⟩
  have o_Word___bool__ : WOwn.OpM l.prog w K mg base CX0 1 eC_Word "__bool__" (spBoolW eC_Word) := ⟨⟨_, _, ["self"], ⟨a2, n2, sf_Word⟩, ok_Word___bool__ T  F2, b2⟩⟩
  have o_Word___eq__ : WOwn.OpM l.prog w K mg base CX0 1 eC_Word "__eq__" (spEqW eC_Word) := ⟨⟨_, _, ["self", "other"], ⟨a1, n1, sf_Word⟩, ok_Word___eq__ T  F1, b1⟩⟩
  have c__law_alone : C8.Cal l.prog w K mg base 4 "_law_alone" spTrue2 [] := ⟨_, _, ["a", "width"], [], ok__law_alone T c__law_is_word c__law_truth m_Word o_Word___add__ o_Word___sub__ o_Word___or__ o_Word___and__ c_Word_below o_Word___xor__ o_Word___bool__ o_Word___eq__ F26, PySem.W.mg_of X G a26, k26, b26, .nil⟩
  have c__law_compared : C8.Cal l.prog w K mg base 3 "_law_compared" spTrue3 [] := ⟨_, _, ["a", "b", "width"], [], ok__law_compared T c__law_truth c__law_is_word m_Word c_Word_below o_Word___eq__ F27, PySem.W.mg_of X G a27, k27, b27, .nil⟩
  have c_Word__check_shift : C8.Met l.prog w K mg base 1 eC_Word "_check_shift" (spChk eC_Word) [] := ⟨⟨_, _, ["self", "by"], [], T.cl_Word, ⟨a4, n4, k4⟩, ok_Word__check_shift T  F4, b4, .nil⟩⟩
  have o_Word___lshift__ : WOwn.OpM l.prog w K mg base CX0 3 eC_Word (PySem.dunder Operator.LShift.info.2) (spSh eC_Word fShl) := ⟨⟨_, _, ["self", "by"], ⟨by rw [WOwn.dn_LShift]; exact a12, n12, sf_Word⟩, ok_Word___lshift__ T c_Word__check_shift m_Word F12, b12⟩⟩
  have o_Word___rshift__ : WOwn.OpM l.prog w K mg base CX0 3 eC_Word (PySem.dunder Operator.RShift.info.2) (spSh eC_Word fShr) := ⟨⟨_, _, ["self", "by"], ⟨by rw [WOwn.dn_RShift]; exact a13, n13, sf_Word⟩, ok_Word___rshift__ T c_Word__check_shift m_Word F13, b13⟩⟩
  have c__law_moves : C8.Cal l.prog w K mg base 4 "_law_moves" spTrue2 [] := ⟨_, _, ["a", "width"], [], ok__law_moves T c__law_is_word m_Word o_Word___lshift__ o_Word___rshift__ c_Word_part F28, PySem.W.mg_of X G a28, k28, b28, .nil⟩
  have c__law_glued_bits : C8.Cal l.prog w K mg base 4 "_law_glued_bits" (spGluedB eC_Word) [] := ⟨_, _, ["x"], [], ok__law_glued_bits T sm_Word_glue F31, PySem.W.mg_of X G a31, k31, b31, .nil⟩
  have c__law_bits_joined : C8.Cal l.prog w K mg base 5 "_law_bits_joined" spBits [] := ⟨_, _, ["a"], [], ok__law_bits_joined T c__law_is_word c__law_glued_bits m_Word F33, PySem.W.mg_of X G a33, k33, b33, .nil⟩
  exact ok_law T c__law_plain c__law_box c__law_value c__law_second c__law_draw c__law_joins c__law_operators c__law_alone c__law_compared c__law_moves c__law_bits_joined F34
end K12
open PySem PySem.W PyProof.Rows
set_option maxRecDepth 100000 in
set_option maxHeartbeats 0 in
theorem PySem.Challenge.cw_gatesworn_k12_word_operations_holds : PySem.Challenge.rw_gatesworn_k12_word_operations.Holds := by
  w_on; o_law; k_head; (case hw => w_witness2)
  k_fill
  refine L2.walk_of (l := PySem.Challenge.rw_gatesworn_k12_word_operations) (n := 63) (k := 6) (x := "script") (CX := fun _ => L2.CX0) (sp := fun w => K12.spLaw _) rfl (by decide) rfl ⟨rfl, by decide, by decide⟩ (fun w h Y => PySem.W.kIn_of Y) ?F (fun _ _ a ns hl _ hS => ⟨a, ns, rfl, hS, hl, fun _ => rfl⟩) (fun _ _ _ _ _ h => h)
  case F =>
    intro w mg fa h KX G hmg
    refine' K12.all_mk KX G hmg ?a0 ?n0 ?l0 ?c0 ?k0 ?a1 ?n1 ?l1 ?c1 ?k1 ?a2 ?n2 ?l2 ?c2 ?k2 ?a3 ?n3 ?l3 ?c3 ?k3 ?a4 ?n4 ?l4 ?c4 ?k4 ?a5 ?n5 ?l5 ?c5 ?k5 ?a6 ?n6 ?l6 ?c6 ?k6 ?a7 ?n7 ?l7 ?c7 ?k7 ?a8 ?n8 ?l8 ?c8 ?k8 ?a9 ?n9 ?l9 ?c9 ?k9 ?a10 ?n10 ?l10 ?c10 ?k10 ?a11 ?n11 ?l11 ?c11 ?k11 ?a12 ?n12 ?l12 ?c12 ?k12 ?a13 ?n13 ?l13 ?c13 ?k13 ?a14 ?n14 ?l14 ?c14 ?k14 ?a15 ?n15 ?l15 ?c15 ?k15 ?a16 ?r16 ?l16 ?c16 ?k16 ?a17 ?l17 ?c17 ?k17 ?a18 ?l18 ?c18 ?k18 ?a19 ?l19 ?c19 ?k19 ?a20 ?l20 ?c20 ?k20 ?a21 ?l21 ?c21 ?k21 ?a22 ?l22 ?c22 ?k22 ?a23 ?l23 ?c23 ?k23 ?a24 ?l24 ?c24 ?k24 ?a25 ?l25 ?c25 ?k25 ?a26 ?l26 ?c26 ?k26 ?a27 ?l27 ?c27 ?k27 ?a28 ?l28 ?c28 ?k28 ?a29 ?l29 ?c29 ?k29 ?a30 ?l30 ?c30 ?k30 ?a31 ?l31 ?c31 ?k31 ?a32 ?l32 ?c32 ?k32 ?a33 ?l33 ?c33 ?k33 ?a34 ?l34 ?c34 ?k34 ?z_abs ?z_bool ?z_int ?z_isinstance ?z_len ?z_range ?z_str ?z_sum ?xhn ?xht ?xa_Word ?pg_Word ?hd_Word ?po_Word ?sa_Word ?mk_Word ?xk_Word ?xcl_Word ?xm_Word ?xj_Word ?xy_Word ?sf_Word ?rd_Word ?ga_Word ?es0_Word ?es1_Word ?es2_Word ?es3_Word ?es4_Word ?es5_Word ?es6_Word ?em0_Word ?em1_Word ?em2_Word ?em3_Word ?em4_Word ?em5_Word ?em6_Word ?nf_value_Word ?nf_width_Word ?cv_Word_WIDEST ?oa_LShift ?ob_LShift ?oc_LShift ?oa_RShift ?ob_RShift ?oc_RShift
    (case xa_Word => k_is); (case a0 => k_is); (case n0 => k_is); (case l0 => k_is); (case c0 => k_is); (case k0 => k_is); (case a1 => k_is); (case n1 => k_is); (case l1 => k_is); (case c1 => k_is); (case k1 => k_is); (case a2 => k_is); (case n2 => k_is); (case l2 => k_is); (case c2 => k_is); (case k2 => k_is); (case a3 => k_is); (case n3 => k_is); (case l3 => k_is); (case c3 => k_is); (case k3 => k_is); (case a4 => k_is); (case n4 => k_is); (case l4 => k_is); (case c4 => k_is); (case k4 => k_is); (case a5 => k_is); (case n5 => k_is); (case l5 => k_is); (case c5 => k_is); (case k5 => k_is); (case a6 => k_is); (case n6 => k_is); (case l6 => k_is); (case c6 => k_is); (case k6 => k_is); (case a7 => k_is); (case n7 => k_is); (case l7 => k_is); (case c7 => k_is); (case k7 => k_is); (case a8 => k_is); (case n8 => k_is); (case l8 => k_is); (case c8 => k_is); (case k8 => k_is); (case a9 => k_is); (case n9 => k_is); (case l9 => k_is); (case c9 => k_is); (case k9 => k_is); (case a10 => k_is); (case n10 => k_is); (case l10 => k_is); (case c10 => k_is); (case k10 => k_is); (case a11 => k_is); (case n11 => k_is); (case l11 => k_is); (case c11 => k_is); (case k11 => k_is); (case a12 => k_is); (case n12 => k_is); (case l12 => k_is); (case c12 => k_is); (case k12 => k_is); (case a13 => k_is); (case n13 => k_is); (case l13 => k_is); (case c13 => k_is); (case k13 => k_is); (case a14 => k_is); (case n14 => k_is); (case l14 => k_is); (case c14 => k_is); (case k14 => k_is); (case a15 => k_is); (case n15 => k_is); (case l15 => k_is); (case c15 => k_is); (case k15 => k_is); (case a16 => k_is); (case r16 => k_is); (case l16 => k_is); (case c16 => k_is); (case k16 => k_is); (case a17 => k_is); (case l17 => k_is); (case c17 => k_is); (case k17 => k_is); (case a18 => k_is); (case l18 => k_is); (case c18 => k_is); (case k18 => k_is); (case a19 => k_is); (case l19 => k_is); (case c19 => k_is); (case k19 => k_is); (case a20 => k_is); (case l20 => k_is); (case c20 => k_is); (case k20 => k_is); (case a21 => k_is); (case l21 => k_is); (case c21 => k_is); (case k21 => k_is); (case a22 => k_is); (case l22 => k_is); (case c22 => k_is); (case k22 => k_is); (case a23 => k_is); (case l23 => k_is); (case c23 => k_is); (case k23 => k_is); (case a24 => k_is); (case l24 => k_is); (case c24 => k_is); (case k24 => k_is); (case a25 => k_is); (case l25 => k_is); (case c25 => k_is); (case k25 => k_is); (case a26 => k_is); (case l26 => k_is); (case c26 => k_is); (case k26 => k_is); (case a27 => k_is); (case l27 => k_is); (case c27 => k_is); (case k27 => k_is); (case a28 => k_is); (case l28 => k_is); (case c28 => k_is); (case k28 => k_is); (case a29 => k_is); (case l29 => k_is); (case c29 => k_is); (case k29 => k_is); (case a30 => k_is); (case l30 => k_is); (case c30 => k_is); (case k30 => k_is); (case a31 => k_is); (case l31 => k_is); (case c31 => k_is); (case k31 => k_is); (case a32 => k_is); (case l32 => k_is); (case c32 => k_is); (case k32 => k_is); (case a33 => k_is); (case l33 => k_is); (case c33 => k_is); (case k33 => k_is); (case a34 => k_is); (case l34 => k_is); (case c34 => k_is); (case k34 => k_is); (case z_abs => k_is); (case z_bool => k_is); (case z_int => k_is); (case z_isinstance => k_is); (case z_len => k_is); (case z_range => k_is); (case z_str => k_is); (case z_sum => k_is); (case xhn => k_is); (case xht => k_is); (case pg_Word => k_is); (case hd_Word => k_is); (case po_Word => k_is); (case sa_Word => k_is); (case mk_Word => k_is); (case xk_Word => k_is); (case xcl_Word => k_is); (case xm_Word => k_is); (case xj_Word => k_is); (case xy_Word => k_is); (case sf_Word => k_is); (case rd_Word => k_is); (case ga_Word => k_is); (case es0_Word => k_is); (case es1_Word => k_is); (case es2_Word => k_is); (case es3_Word => k_is); (case es4_Word => k_is); (case es5_Word => k_is); (case es6_Word => k_is); (case em0_Word => k_is); (case em1_Word => k_is); (case em2_Word => k_is); (case em3_Word => k_is); (case em4_Word => k_is); (case em5_Word => k_is); (case em6_Word => k_is); (case nf_value_Word => k_is); (case nf_width_Word => k_is); (case cv_Word_WIDEST => k_is); (case oa_LShift => k_is); (case ob_LShift => k_is); (case oc_LShift => k_is); (case oa_RShift => k_is); (case ob_RShift => k_is); (case oc_RShift => k_is)
