import PyProof.Rows.All
import Wide.All
import OpenK.AllK
import Wide.FinOn
import HandS.ForMost
import HandS.SortKw
import HandS.Codes
import HandS.Strs
import HandS.Wide
import HandS.IsInst
import HandS.StrMore
import HandS.Steps
import HandS.Evl
import HandS.Zip
import PySem.Challenge.RW_gatesworn_k00_tokens
set_option Elab.async false
set_option linter.all false
set_option maxRecDepth 100000
set_option maxHeartbeats 4000000
namespace WL
open PySem PySem.Spec PyProof.Rows L2 PySem.W
/-! max of a list of ints with default= -/
section
variable {prog : Program} {w : World} {A : Around} {R : Result → Shared → Prop} {I : Addr} {fp wr : List Addr} {n : Nat} {P : Nat → Value → Prop} {St : Nat → Heap → Prop} {kw : List (Str × Value)}
theorem mxName : (toString "max" ++ toString ".loop" : String) = "max.loop" := by decide
/-- the turns behind the first one, whatever the keywords -/
theorem mx_turns (W : Walks prog w A.in1 I fp wr n P St) (bt : Nat → Nat → Bool) (cmp : CmpOf prog w A.in1 .Gt P bt) (S : Addr) (nf : S ∉ fp) : ∀ (k j : Nat) (s : Shared) (vb : Value) (c : Nat), n - (j + 1) = k → j + 1 ≤ n → St (j + 1) s.heap → P (argBest bt j) vb →
    s.heap.get? S = some { cls := .type "list", dict := none, data := .seq #[vb, vb] c, slots := #[] } →
    (∀ v h' tk, P (argBest bt (n - 1)) v → (∀ b o, b ∉ wr → b ≠ S → s.heap.get? b = some o → h'.get? b = some o) → R (.ok (.ret v)) { s with heap := h', toks := tk }) →
    codeAny (model prog w) A (.builtin "max.loop" ⟨[.ref I, .none, .ref S], kw⟩) R s := by
  have nw : S ∉ wr := fun h => nf (W.sub _ h)
  intro k; induction k with
  | zero =>
    intro j s vb c hk hj hst hPb hS hR
    have en : j + 1 = n := by omega
    refine codeAny_builtin F.entry_max_loop ?_; rw [Around.under_plainId F.plain_max_loop _]
    (show wpAny _ A.in1 (seqItems? (.ref S) >>= _) _ _ s); refine wpAny_bind (wpAny_seqItems hS rfl ?_)
    (show wpAny _ A.in1 (tryCatch (pyNext (.ref I)) _ >>= _) _ _ s); refine wpAny_bind (wpAny_tryCatch (W.done s _ _ (en ▸ hst) fun h' tk hk' => ?_))
    (show wpAny _ A.in1 (updateSeq S (fun _ => #[]) >>= _) _ _ _); refine wpAny_bind (wpAny_updateSeq (hk' S _ nw hS) rfl (wpAny_bind (wpAny_letGo (wpAny_pure ?_))))
    exact hR vb _ tk (by rw [← en]; exact hPb) fun b o hbw hbS e => (Heap.get?_update_other _ _ (Ne.symm hbS)).trans (hk' b o hbw e)
  | succ k ih =>
    intro j s vb c hk hj hst hPb hS hR
    have hlt : j + 1 < n := by omega
    refine codeAny_builtin F.entry_max_loop ?_; rw [Around.under_plainId F.plain_max_loop _]
    (show wpAny _ A.in1 (seqItems? (.ref S) >>= _) _ _ s); refine wpAny_bind (wpAny_seqItems hS rfl ?_)
    (show wpAny _ A.in1 (tryCatch (pyNext (.ref I)) _ >>= _) _ _ s); refine wpAny_bind (wpAny_tryCatch (W.item (j + 1) s _ _ hlt hst fun v h' tk hP hst' hk' => ?_))
    have hS' := hk' S _ nw hS
    (show wpAny _ A.in1 (tryCatch (holding [v, v] (richCompare .Gt v vb >>= _)) _ >>= _) _ _ _); refine wpAny_bind (wpAny_tryCatch (wpAny_holding (wpAny_bind (cmp (j + 1) (argBest bt j) v vb _ _ _ hP hPb ?_))))
    refine wpAny_bind (wpAny_holding (wpAny_truthy_bool ?_)); refine wpAny_bind (wpAny_letGo (wpAny_pure ?_))
    cases hb : bt (j + 1) (argBest bt j) with
    | true =>
      simp only [if_true]
      refine wpAny_bind (wpAny_updateSeq hS' rfl (wpAny_bind (wpAny_letGo ?_))); rw [mxName]
      refine wpAny_pure ⟨plainId_quiet F.plain_max_loop _, ih (j + 1) _ v _ (by omega) hlt (W.frame _ _ _ hst' fun b hbf o e => ?_) (by simp only [argBest, hb, if_true]; exact hP) (Heap.get?_update_self _ hS' rfl) fun v' h'' tk'' hP' hk'' => ?_⟩
      · exact (Heap.get?_update_other _ _ (fun q : S = b => nf (by rw [q]; exact hbf))).trans e
      · exact hR v' h'' tk'' hP' fun b o hbw hbS e => hk'' b o hbw hbS ((Heap.get?_update_other _ _ (Ne.symm hbS)).trans (hk' b o hbw e))
    | false =>
      simp only [Bool.false_eq_true, if_false]
      refine wpAny_bind (wpAny_letGo ?_); rw [mxName]
      refine wpAny_pure ⟨plainId_quiet F.plain_max_loop _, ih (j + 1) _ vb c (by omega) hlt hst' (by simp only [argBest, hb, Bool.false_eq_true, if_false]; exact hPb) hS' fun v' h'' tk'' hP' hk'' => ?_⟩
      exact hR v' h'' tk'' hP' fun b o hbw hbS e => hk'' b o hbw hbS (hk' b o hbw e)
/-- all turns, at least one item -/
theorem mx_first (W : Walks prog w A.in1 I fp wr n P St) (bt : Nat → Nat → Bool) (cmp : CmpOf prog w A.in1 .Gt P bt) (S : Addr) (nf : S ∉ fp) (hn : 0 < n) {s : Shared} {c : Nat} (hst : St 0 s.heap) (hS : s.heap.get? S = some { cls := .type "list", dict := none, data := .seq #[] c, slots := #[] })
    (hR : ∀ v h' tk, P (argBest bt (n - 1)) v → (∀ b o, b ∉ wr → b ≠ S → s.heap.get? b = some o → h'.get? b = some o) → R (.ok (.ret v)) { s with heap := h', toks := tk }) : codeAny (model prog w) A (.builtin "max.loop" ⟨[.ref I, .none, .ref S], kw⟩) R s := by
  have nw : S ∉ wr := fun h => nf (W.sub _ h)
  refine codeAny_builtin F.entry_max_loop ?_; rw [Around.under_plainId F.plain_max_loop _]
  (show wpAny _ A.in1 (seqItems? (.ref S) >>= _) _ _ s); refine wpAny_bind (wpAny_seqItems hS rfl ?_)
  (show wpAny _ A.in1 (tryCatch (pyNext (.ref I)) _ >>= _) _ _ s); refine wpAny_bind (wpAny_tryCatch (W.item 0 s _ _ hn hst fun v h' tk hP hst' hk' => ?_))
  have hS' := hk' S _ nw hS
  (show wpAny _ A.in1 (updateSeq S (fun _ => #[v, v]) >>= _) _ _ _); refine wpAny_bind (wpAny_updateSeq hS' rfl ?_); rw [mxName]
  refine wpAny_pure ⟨plainId_quiet F.plain_max_loop _, mx_turns W bt cmp S nf _ 0 _ v _ rfl hn (W.frame _ _ _ hst' fun b hbf o e => ?_) hP (Heap.get?_update_self _ hS' rfl) fun v' h'' tk'' hP' hk'' => ?_⟩
  · exact (Heap.get?_update_other _ _ (fun q : S = b => nf (by rw [q]; exact hbf))).trans e
  · exact hR v' h'' tk'' hP' fun b o hbw hbS e => hk'' b o hbw hbS ((Heap.get?_update_other _ _ (Ne.symm hbS)).trans (hk' b o hbw e))
/-- no item: the default -/
theorem mx_none (W : Walks prog w A.in1 I fp wr n P St) (S : Addr) (nf : S ∉ fp) (hn : n = 0) {d : Value} {s : Shared} {c : Nat} (hst : St 0 s.heap) (hS : s.heap.get? S = some { cls := .type "list", dict := none, data := .seq #[] c, slots := #[] })
    (hR : ∀ h' tk, (∀ b o, b ∉ wr → b ≠ S → s.heap.get? b = some o → h'.get? b = some o) → R (.ok (.ret d)) { s with heap := h', toks := tk }) : codeAny (model prog w) A (.builtin "max.loop" ⟨[.ref I, .none, .ref S], [("default", d)]⟩) R s := by
  subst hn
  refine codeAny_builtin F.entry_max_loop ?_; rw [Around.under_plainId F.plain_max_loop _]
  (show wpAny _ A.in1 (seqItems? (.ref S) >>= _) _ _ s); refine wpAny_bind (wpAny_seqItems hS rfl ?_)
  (show wpAny _ A.in1 (tryCatch (pyNext (.ref I)) _ >>= _) _ _ s); refine wpAny_bind (wpAny_tryCatch (W.done s _ _ hst fun h' tk hk' => ?_))
  refine wpAny_bind (wpAny_rule ?_)
  exact wpAny_pure (hR h' tk fun b o hbw _ e => hk' b o hbw e)
end
section
variable {prog : Program} {w : World} {A : Around} {E : Value → Shared → Prop} {s : Shared} {l : Addr} {xs : Array (Int × Tok)} {Q : Value → Shared → Prop}
theorem mx_args (a d : Value) : argsOk "max" ⟨[a], [(Str.ofString "default", d)]⟩ := by unfold argsOk; kernel_rfl
theorem mx_list {d : Value} (hh : A.handled = none) (hl : s.heap.IsList l (intItems xs)) (h0 : xs.size = 0 → ∀ h' tk, (∀ b o, s.heap.get? b = some o → h'.get? b = some o) → Q d { s with heap := h', toks := tk })
    (h1 : 0 < xs.size → ∀ v h' tk, (intItems xs)[argBest (fun i j => decide (numAt xs i > numAt xs j)) (xs.size - 1)]? = some v → (∀ b o, s.heap.get? b = some o → h'.get? b = some o) → Q v { s with heap := h', toks := tk }) :
    wpAny (model prog w) A (call (.builtin "max") [.ref l] [(Str.ofString "default", d)]) Q E s := by
  refine kmk_tree F.kind_max F.plain_max F.entry_max (mx_args _ _) ?_
  show wpAny _ A.in1 (Builtin.Builtins.bindParams "max" ["key", "default"] 0 ⟨[], [(Str.ofString "default", d)]⟩ >>= _) _ _ s
  refine wpAny_bind (wpAny_of_eq (show Builtin.Builtins.bindParams "max" ["key", "default"] 0 ⟨[], [(Str.ofString "default", d)]⟩ = pure [none, some d] from rfl) ?_)
  refine wpAny_bind (wpAny_pure ?_)
  refine wpAny_bind (iter_intList hl fun s₂ e st hfp hlI => ?_)
  refine wpAny_bind (wpAny_newObj_type ?_)
  have W := Walks.list (prog := prog) (w := w) (A := A.in1) hh _ l hlI (intItems xs)
  have nf : s₂.heap.objs.size ∉ [s.heap.objs.size, l] := fun hm => Nat.lt_irrefl _ (hfp _ hm)
  have st0 := W.frame 0 _ (s₂.heap.push { cls := .type "list", data := .seq (#[] : Array Value) }) st (fun b _ o e => Heap.get?_push_of_some _ e)
  have hS : (s₂.heap.push { cls := .type "list", data := .seq (#[] : Array Value) }).get? s₂.heap.objs.size = some { cls := .type "list", data := .seq (#[] : Array Value) } := Heap.get?_push_size _ rfl
  rw [mxName]
  subst e
  by_cases hz : xs.size = 0
  · refine wpAny_pure ⟨plainId_quiet F.plain_max_loop _, mx_none W _ nf (by simpa [intItems] using hz) st0 hS fun h' tk hk => ?_⟩
    exact h0 hz h' tk (old_kept fun b o hb e => hk b o hb (Nat.ne_of_lt (Heap.lt_size e)) (Heap.get?_push_of_some _ e))
  · refine wpAny_pure ⟨plainId_quiet F.plain_max_loop _, mx_first W _ (CmpOf.ints_gt (numAt xs) (fun _ _ => intItems_at)) _ nf (by simp [intItems]; omega) st0 hS fun v h' tk hP hk => ?_⟩
    exact h1 (by omega) v h' tk (by simpa [intItems] using hP) (old_kept fun b o hb e => hk b o hb (Nat.ne_of_lt (Heap.lt_size e)) (Heap.get?_push_of_some _ e))
end
/-- max(xs, default=d), xs a list of ints -/
def rMaxD (K : PySem.W.Frag) : List V → List V → Hp → VK → Prop := fun vs zs H Q => ∃ (a : Addr) (ns : List Int) (d : Int), vs = [V.ref a] ∧ zs = [V.int d] ∧ SqL K H a (ns.map V.int) ∧ (ns = [] → Q (.int d) H) ∧ (∀ m, m ∈ ns → (∀ y, y ∈ ns → y ≤ m) → Q (.int m) H)
theorem cr_maxD {X : Cx} (hc : X.calm = true) : CallRK X (.builtin "max") [Str.ofString "default"] (rMaxD X.K) := by
  intro pins s σ H vs zs us ws Q I r r2 h
  obtain ⟨a, ns, d, rfl, rfl, hs, q0, q1⟩ := h
  obtain ⟨its, rv, hl, _⟩ := I.list hs
  rw [Vals.ref1 r]
  obtain ⟨u, rfl, t, rfl⟩ : ∃ u, ws = [u] ∧ ∃ t, u = Value.int d t := by
    cases r2 with
    | cons a b => cases b; exact ⟨_, rfl, a⟩
  obtain ⟨xs, e⟩ := rv.ints.allInts.items
  have hn : numsOf (intItems xs).toList = ns := by rw [← e]; exact rv.ints.numsOf
  rw [nums_intItems] at hn
  subst hn
  have hl' := hl.isList
  rw [e] at hl'
  refine mx_list (I.ok.hd hc) hl' (fun hz h' tk hk => ⟨.int d, H, I.kept hk, ⟨_, rfl⟩, q0 ?_⟩) (fun hz v h' tk hv hk => ?_)
  · have : xs = #[] := Array.eq_empty_of_size_eq_zero hz
    subst this; rfl
  · obtain ⟨t, rfl⟩ := intItems_at hv
    obtain ⟨k1, k2⟩ := argBest_gt (numAt xs) (xs.size - 1)
    refine ⟨.int _, H, I.kept hk, ⟨_, rfl⟩, q1 _ ?_ fun y hy => ?_⟩
    · rw [numAt_eq]; exact PySem.getD_mem (by rw [List.length_map, Array.length_toList]; omega)
    · obtain ⟨j, hj, rfl⟩ := mem_getD hy
      rw [List.length_map, Array.length_toList] at hj
      rw [← numAt_eq]; exact k2 j (by omega)
theorem my_maxD {X : Cx} (K : PySem.W.Frag) {p pos kp : Pos} {e d : Expr} {te td : TE} (hm : X.mg "max" = none) (hc : X.calm = true) (hg : Gl X "max") (he : PE X e te) (hd : PE X d td)
    (h1 : backTo pos (starEach [e] X.env) = (false, eval e X.env) :: backTo pos (starEach [] X.env) := by rfl) (h2 : (backTo pos (starEach [e] X.env)).any (·.1) = false := by rfl) (h3 : starEach [e] X.env = (false, eval e X.env) :: starEach [] X.env := by rfl) (eK : X.K = K := by rfl) :
    PE X (.Call (.Name "max" p) [e] [⟨some "default", d, kp⟩] pos) (tCKw (rMaxD K) (tCons te tNil) (tCons td tNil)) := by
  subst eK
  exact pe_callBK (cr_maxD hc) hg hm (by decide +kernel) (pa_cons he pa_nil h3) (pk_cons hd pk_nil) (by decide) (by decide) h1 h2 rfl rfl rfl
/-- text * int -/
theorem op_mul_str {X : Cx} : OpR X (binaryOp .Mult) (fun x y H Q => ∃ z n, x = .str z ∧ y = .int n ∧ z.length ≤ 16 ∧ n ≤ 1048576 ∧ -(2 ^ 63 : Int) ≤ n ∧ Q (.str (Txt.mul z n)) H) := by
  intro pins s σ H x y v u Q I rx ry h
  obtain ⟨z, n, rfl, rfl, h1, h2, h3, q⟩ := h
  obtain ⟨t, rfl⟩ := rx
  obtain ⟨t', rfl⟩ := ry
  exact SB.mul (mulOk_of 16 1048576 h1 h2 h3 (by decide) (by decide)) fun t' k => ⟨.str (Txt.mul z n), H, I.tok _, ⟨_, rfl⟩, q⟩
end WL
set_option Elab.async false
set_option linter.all false
set_option maxRecDepth 100000
set_option maxHeartbeats 4000000
namespace WL
open PySem PySem.Spec PyProof.Rows L2 PySem.W
/-! ### heaps: all but b stays -/
def Kp (b : Addr) (H H' : Hp) : Prop := ∀ a o, H a = some o → a ≠ b → H' a = some o
theorem Kp.refl {b : Addr} (H : Hp) : Kp b H H := fun _ _ h _ => h
theorem Kp.trans {b : Addr} {H H1 H2 : Hp} (p : Kp b H H1) (q : Kp b H1 H2) : Kp b H H2 := fun a o h n => q a o (p a o h n) n
theorem Kp.set {b : Addr} {H H1 : Hp} {o : HO} (p : Kp b H H1) : Kp b H (upd H1 b o) := fun a u h n => by rw [upd_ne n]; exact p a u h n
theorem Kp.new {b p : Addr} {H H1 : Hp} {o : HO} (k : Kp b H H1) (hp : H1 p = none) : Kp b H (upd H1 p o) := fun a u h n => by
  have e := k a u h n
  rw [upd_ne (ne_of_none e hp)]; exact e
/-- an object that was not there may change -/
theorem Kp.mut {b p : Addr} {H H1 : Hp} {o : HO} (k : Kp b H H1) (hp : H p = none) : Kp b H (upd H1 p o) := fun a u h n => by
  rw [upd_ne (ne_of_none h hp)]; exact k a u h n
theorem Kp.same {b : Addr} {H H1 : Hp} (s : Same H H1) : Kp b H H1 := fun a o h _ => s a o h
theorem Kp.free {b a : Addr} {H H1 : Hp} (k : Kp b H H1) (n : a ≠ b) (h : H1 a = none) : H a = none := by
  cases e : H a with
  | none => rfl
  | some o => rw [k a o e n] at h; cases h
theorem Kp.seq {K : PySem.W.Frag} {b a : Addr} {xs : List V} {H H1 : Hp} (k : Kp b H H1) (n : a ≠ b) (h : SqL K H a xs) : SqL K H1 a xs := by
  rcases h with (h | ⟨o, h⟩) | h
  · exact .inl (.inl (k _ _ h n))
  · exact .inl (.inr ⟨o, k _ _ h n⟩)
  · exact .inr h
theorem same_new {H : Hp} {p : Addr} {o : HO} (h : H p = none) : Same H (upd H p o) := fun b x e => by
  rw [upd_ne (ne_of_none e h)]; exact e
theorem same_mut {H H1 : Hp} {p : Addr} {o : HO} (k : Same H H1) (hp : H p = none) : Same H (upd H1 p o) := fun a u h => by
  rw [upd_ne (ne_of_none h hp)]; exact k a u h
theorem cxK {CX : CXT} {P : Program} {w : World} {K : PySem.W.Frag} {mg : Str → Option Value} {base : Heap} {N : List Str} {qual : Str} {scope : Scope} {f : Addr} {cd : Value} {A : Around} {outer : List Env} {s : Shared} {H : Hp} {E : XK} : (cxOf CX P w K mg base N qual scope f cd A outer s H E).K = K := rfl
/-! ### the rules with the written part named -/
section
variable {X : Cx} (K : PySem.W.Frag)
theorem kix_list (e : X.K = K := by rfl) : IxR X (rIxL K) := by subst e; exact ix_list
theorem kix_tup (e : X.K = K := by rfl) : IxR X (rIxT K) := by subst e; exact ix_tup
theorem ksl_list (e : X.K = K := by rfl) : SlR X (rSlL K) := by subst e; exact sl_list
theorem ksl_tup (e : X.K = K := by rfl) : SlR X (rSlT K) := by subst e; exact sl_tup
theorem kop_in_seq (e : X.K = K := by rfl) : OpR X (compareOp .In) (rIn K false) := by subst e; exact op_in_seq
theorem kop_notIn_seq (e : X.K = K := by rfl) : OpR X (compareOp .NotIn) (rIn K true) := by subst e; exact op_notIn_seq
theorem kop_catT (e : X.K = K := by rfl) : OpR X (binaryOp .Add) (rCatT K) := by subst e; exact op_catT
theorem kcall_len_seq (e : X.K = K := by rfl) : CallR X (.builtin "len") (fun xs H Q => ∃ p ys, xs = [.ref p] ∧ (SqL K H p ys ∨ SqT K H p ys) ∧ Q (.int ys.length) H) := by subst e; exact call_len_seq
theorem kcall_list_of (e : X.K = K := by rfl) : CallR X (.type "list") (fun xs H Q => ∃ p ys, xs = [.ref p] ∧ (SqL K H p ys ∨ SqT K H p ys) ∧ ∀ l, H l = none → Q (.ref l) (upd H l (.lst ys))) := by subst e; exact call_list_of
theorem kcall_tuple_of (e : X.K = K := by rfl) : CallR X (.type "tuple") (fun xs H Q => ∃ p ys, xs = [.ref p] ∧ ((SqL K H p ys ∧ ∀ l, H l = none → Q (.ref l) (upd H l (.tup ys))) ∨ (SqT K H p ys ∧ Q (.ref p) H))) := by subst e; exact call_tuple_of
theorem kcr_sum (hc : X.calm = true := by rfl) (e : X.K = K := by rfl) : CallR X (.builtin "sum") (rSum K) := by subst e; exact cr_sum hc
theorem kcr_max (hc : X.calm = true := by rfl) (e : X.K = K := by rfl) : CallR X (.builtin "max") (rMax K) := by subst e; exact cr_max hc
theorem kcr_min (hc : X.calm = true := by rfl) (e : X.K = K := by rfl) : CallR X (.builtin "min") (rMin K) := by subst e; exact cr_min hc
theorem kop_eqD (hu : X.A.units + 64 < cLine) (e : X.K = K := by rfl) : OpR X (compareOp .Eq) (rEqD K) := by subst e; exact op_eqD hu
theorem kop_neD (hu : X.A.units + 64 < cLine) (e : X.K = K := by rfl) : OpR X (compareOp .NotEq) (rNeD K) := by subst e; exact op_neD hu
theorem kcall_isi (e : X.K = K := by rfl) : CallR X (.builtin "isinstance") (rIsi K) := by subst e; exact call_isi
theorem kcall_isiT (e : X.K = K := by rfl) : CallR X (.builtin "isinstance") (rIsiT K) := by subst e; exact call_isiT
theorem kpi_list {tg l : Expr} {tl : TE} (hl : PE X l tl) (e : X.K = K := by rfl) : PI X tg l (iList K tl) := by subst e; exact pi_list hl
theorem kpi_tup {tg l : Expr} {tl : TE} (hl : PE X l tl) (e : X.K = K := by rfl) : PI X tg l (iTup K tl) := by subst e; exact pi_tup hl
theorem kpt_truth {a : Expr} {ta : TE} (ha : PE X a ta) (he : ∀ whole, isTrue a X.env whole = (do let v ← whole; standAt a.pos; holding [v] (truthy v))) (e : X.K = K := by rfl) : PT X a (tTru K ta) := by subst e; exact pt_truth ha he
theorem kpe_bm {o ex : Expr} {es : List Expr} {T name id} {apos cpos : Pos} {r : V → List V → Hp → VK → Prop} {to : TE} {t : TA} (pa : PlainAttrs T) (slot : Slot T name id) (hty : typeOf (.builtin id) = pure (.type "method_descriptor")) (hm : MtR X id r) (ho : PE X o to) (ha : PA X (ex :: es) t)
    (hbase : attributeBase o name X.env (eval o X.env) = eval o X.env := by rfl) (hfew : ((backTo cpos (starEach (ex :: es) X.env)).all (fun x => !x.1) && (backToKw cpos (keywordEach [] X.env)).all (fun x => x.1.isSome) && decide ((ex :: es).length + ([] : List Keyword).length + (if ([] : List Keyword).isEmpty then 0 else 1) < 30)) = true := by rfl)
    (hline : (apos.endLine == cpos.line) = true := by rfl) (hs : starEach (ex :: es) X.env = (false, eval ex X.env) :: starEach es X.env := by rfl) (hplain : (backTo cpos (starEach es X.env)).any (·.1) = false := by rfl) (e : X.K = K := by rfl) :
    PE X (.Call (.Attribute o name apos) (ex :: es) [] cpos) (tBM K T r to t) := by subst e; exact pe_bm pa slot hty hm ho ha hbase hfew hline hs hplain
theorem kpe_bm0 {o : Expr} {T name id} {apos cpos : Pos} {r : V → List V → Hp → VK → Prop} {to : TE} (pa : PlainAttrs T) (slot : Slot T name id) (hty : typeOf (.builtin id) = pure (.type "method_descriptor")) (hm : MtR X id r) (ho : PE X o to)
    (hbase : attributeBase o name X.env (eval o X.env) = eval o X.env := by rfl) (hline : (apos.endLine == cpos.line) = true := by rfl) (e : X.K = K := by rfl) : PE X (.Call (.Attribute o name apos) [] [] cpos) (tBM0 K T r to) := by subst e; exact pe_bm0 pa slot hty hm ho hbase hline
theorem kpe_join {o ex : Expr} {to te : TE} {apos pos : Pos} (ho : PE X o to) (he : PE X ex te) (hs : starEach [ex] X.env = [(false, eval ex X.env)] := by rfl) (hbase : attributeBase o "join" X.env (eval o X.env) = eval o X.env := by rfl) (hline : (apos.endLine == pos.line) = true := by rfl) (e : X.K = K := by rfl) :
    PE X (.Call (.Attribute o "join" apos) [ex] [] pos) (tM1 (fun x xs H Q => ∃ a p, ∃ ys : List Str, x = .str a ∧ xs = [.ref p] ∧ (SqL K H p (ys.map V.str) ∨ SqT K H p (ys.map V.str)) ∧ (ys.map (·.length)).sum + ys.length * a.length ≤ 16777216 ∧ Q (.str (Txt.join a ys)) H) to te) := by subst e; exact pe_join ho he hs hbase hline
theorem kpg_tup {es : List Expr} {k : Nat} {t : TGs} {n : Nat} {pos : Pos} (hc : X.calm = true) (h : PGs X es t) (hn : (assignEach es X.env).length = n := by rfl) (hst : (assignEach es X.env).findIdx? (·.1) = none := by rfl) (e : X.K = K := by rfl) : PG X (.Tuple es k pos) (gTup K n t) := by subst e; exact pg_tup hc h hn hst
theorem kpi_zip {ex e2 : Expr} {ta : TA} {p pos tpos : Pos} {elts : List Expr} {kk : Nat} (hg : Gl X "zip") (hm : X.mg "zip" = none) (ha : PA X [ex, e2] ta) (hs : starEach [ex, e2] X.env = (false, eval ex X.env) :: starEach [e2] X.env := by rfl) (hpl : (backTo pos (starEach [e2] X.env)).any (·.1) = false := by rfl) (e : X.K = K := by rfl) :
    PI X (.Tuple elts kk tpos) (.Call (.Name "zip" p) [ex, e2] [] pos) (iZip K ta) := by subst e; exact pi_zip hg hm ha hs hpl
theorem kpi_enum {ex : Expr} {ta : TA} {p pos tpos : Pos} {elts : List Expr} {kk : Nat} (hg : Gl X "enumerate") (hm : X.mg "enumerate" = none) (ha : PA X [ex] ta) (hs : starEach [ex] X.env = [(false, eval ex X.env)] := by rfl) (e : X.K = K := by rfl) :
    PI X (.Tuple elts kk tpos) (.Call (.Name "enumerate" p) [ex] [] pos) (iEnum K ta) := by subst e; exact pi_enum hg hm ha hs
theorem kpi_reversed {tg ex : Expr} {ta : TA} {p pos : Pos} (hg : Gl X "reversed") (hm : X.mg "reversed" = none) (ha : PA X [ex] ta) (hs : starEach [ex] X.env = [(false, eval ex X.env)] := by rfl) (e : X.K = K := by rfl) : PI X tg (.Call (.Name "reversed" p) [ex] [] pos) (iRev K ta) := by subst e; exact pi_reversed hg hm ha hs
end
/-! ### steps of a reading -/
section
variable {K : PySem.W.Frag} {σ : L2.St} {H : Hp} {Q : VK} {D : Ends} {ta tb te tc : TE} {t u : TS} {c d : TT} {i j : Int} {x y v : V} {p : Addr} {xs : List V} {k : Nat} {b : Bool}
theorem g_seq (h : t { D with nx := u D } σ H) : tSeq t u D σ H := h
theorem g_asg {g : TG} (h : te σ H fun x H1 => g x σ H1 D.nx) : tAsg te g D σ H := h
theorem g_name {Q : L2.St → Hp → Prop} (h : Q (σ.set k (some v)) H) : gName k v σ H Q := h
theorem g_sub {to ti : TE} {r : TSet} {Q : L2.St → Hp → Prop} (h : to σ H fun o H1 => ti σ H1 fun i H2 => r o i v H2 fun H3 => Q σ H3) : gSub to ti r v σ H Q := h
theorem g_var (e : σ[k]? = some (some v)) (h : Q v H) : tVar k σ H Q := ⟨v, e, h⟩
theorem g_c (h : Q v H) : tC v σ H Q := h
theorem g_op {r : R2} (h : ta σ H fun x H1 => tb σ H1 fun y H2 => r x y H2 Q) : tOp r ta tb σ H Q := h
theorem g_un {r : V → Hp → VK → Prop} (h : ta σ H fun x H1 => r x H1 Q) : tUn r ta σ H Q := h
theorem g_I0 {g : Int → Int → V} (h : Q (g i j) H) : rI0 g (.int i) (.int j) H Q := ⟨i, j, rfl, rfl, h⟩
theorem g_I {C : Int → Int → Prop} {g : Int → Int → V} (hc : C i j) (h : Q (g i j) H) : rI C g (.int i) (.int j) H Q := ⟨i, j, rfl, rfl, hc, h⟩
theorem g_U {g : Int → V} (h : Q (g i) H) : rU g (.int i) H Q := ⟨i, rfl, h⟩
theorem g_eq (s : scal x y = true) (h : Q (.bl (decide (x = y))) H) : rEq x y H Q := ⟨s, h⟩
theorem g_ne (s : scal x y = true) (h : Q (.bl (!decide (x = y))) H) : rNe x y H Q := ⟨s, h⟩
theorem g_drop (h : te σ H fun _ H1 => D.nx σ H1) : tDrop te D σ H := h
theorem g_ret (h : te σ H D.rt) : tRet te D σ H := h
theorem g_next (h : D.nx σ H) : tNext D σ H := h
theorem g_ifS (h : c σ H fun b H1 => if b = true then t D σ H1 else u D σ H1) : tIfS c t u D σ H := h
theorem g_ifE (h : c σ H fun b H1 => if b = true then ta σ H1 Q else tb σ H1 Q) : tIf c ta tb σ H Q := h
theorem g_test {Q : Bool → Hp → Prop} (h : te σ H fun x H' => ∃ k, x = .bl k ∧ Q k H') : tTest te σ H Q := h
theorem g_tb {Q : Bool → Hp → Prop} (h : te σ H fun x H' => ∃ k, x = .bl k ∧ Q k H') : tB te σ H Q := h
theorem g_bl {Q : Bool → Prop} (h : Q b) : ∃ k, V.bl b = .bl k ∧ Q k := ⟨b, rfl, h⟩
theorem g_not {Q : Bool → Hp → Prop} (h : c σ H fun b H1 => Q (!b) H1) : tNot c σ H Q := h
theorem g_and {Q : Bool → Hp → Prop} (h : c σ H fun b H1 => if b = true then d σ H1 Q else Q false H1) : tAnd c d σ H Q := h
theorem g_or {Q : Bool → Hp → Prop} (h : c σ H fun b H1 => if b = true then Q true H1 else d σ H1 Q) : tOr c d σ H Q := h
theorem g_nil {Q : List V → Hp → Prop} (h : Q [] H) : tNil σ H Q := h
theorem g_cons {tr : TA} {Q : List V → Hp → Prop} (h : te σ H fun x H1 => tr σ H1 fun xs H2 => Q (x :: xs) H2) : tCons te tr σ H Q := h
theorem g_cb {r : List V → Hp → VK → Prop} {tr : TA} (h : tr σ H fun vs H1 => r vs H1 Q) : tCB r tr σ H Q := h
theorem g_call {sp : Sp} {dvs : List V} {E : XK} {tr : TA} (h : tr σ H fun vs H1 => sp (vs ++ dvs) H1 Q E) : tCall sp dvs E tr σ H Q := h
theorem g_ixL {z : Int} (hs : SqL K H p xs) (ha : atI xs z = some v) (h : Q v H) : rIxL K (.ref p) (.int z) H Q := ⟨p, xs, z, v, rfl, rfl, hs, ha, h⟩
theorem g_setL {z : Int} {Q : Hp → Prop} {n : Nat} {ys : List V} (hs : H p = some (.lst xs)) (ha : ixN xs.length z = some n) (e : xs.set n v = ys) (h : Q (upd H p (.lst ys))) : rSetL (.ref p) (.int z) v H Q := ⟨p, xs, z, n, rfl, rfl, hs, ha, by rw [e]; exact h⟩
theorem g_setL2 {z : Int} {Q : Hp → Prop} {n : Nat} {ys : List V} (ha : ixN xs.length z = some n) (e : xs.set n v = ys) (h : Q (upd H p (.lst ys))) : rSetL (.ref p) (.int z) v (upd H p (.lst xs)) Q :=
  ⟨p, xs, z, n, rfl, rfl, upd_same, ha, by rw [upd_upd, e]; exact h⟩
theorem g_int {Q : Int → Prop} {R : Prop} (h : Q i) : (∃ z, [V.int i] = [.int z] ∧ Q z) ∨ R := .inl ⟨i, rfl, h⟩
theorem g_lst {tr : TA} (h : tr σ H fun xs H1 => xs.length ≤ sizeLine ∧ ∀ p, H1 p = none → Q (.ref p) (upd H1 p (.lst xs))) : tLst tr σ H Q := h
theorem g_tup {tr : TA} (h : tr σ H fun xs H1 => xs.length ≤ sizeLine ∧ ∀ p, H1 p = none → Q (.ref p) (upd H1 p (.tup xs))) : tTup tr σ H Q := h
theorem g_lenS {Q : List V → Prop} (hs : SqL K H p xs) (h : Q xs) : ∃ p' ys, [V.ref p] = [.ref p'] ∧ (SqL K H p' ys ∨ SqT K H p' ys) ∧ Q ys := ⟨p, xs, rfl, .inl hs, h⟩
theorem g_ite {A B : Prop} {P : Prop} [Decidable P] (h1 : P → A) (h2 : ¬ P → B) : if decide P = true then A else B := by
  by_cases h : P
  · rw [if_pos (decide_eq_true h)]; exact h1 h
  · rw [if_neg (fun e => h (of_decide_eq_true e))]; exact h2 h
theorem g_iteN {A B : Prop} {P : Prop} [Decidable P] (h1 : ¬ P → A) (h2 : P → B) : if (!decide P) = true then A else B := by
  by_cases h : P
  · rw [decide_eq_true h]; exact iteF (h2 h)
  · rw [decide_eq_false h]; exact iteT (h1 h)
theorem g_iteI {A B : Prop} (h1 : i = j → A) (h2 : i ≠ j → B) : if decide (V.int i = V.int j) = true then A else B :=
  g_ite (fun e => h1 (V.int.inj e)) (fun n => h2 fun e => n (congrArg V.int e))
theorem g_iteNI {A B : Prop} (h1 : i ≠ j → A) (h2 : i = j → B) : if (!decide (V.int i = V.int j)) = true then A else B :=
  g_iteN (fun n => h1 fun e => n (congrArg V.int e)) (fun e => h2 (V.int.inj e))
theorem g_iteB {A B : Prop} (h1 : b = true → A) (h2 : b = false → B) : if b = true then A else B := by
  cases b with
  | true => exact iteT (h1 rfl)
  | false => exact iteF (h2 rfl)
end
/-! ### loops and comprehensions -/
section
variable {K : PySem.W.Frag} {σ : L2.St} {H : Hp} {Q : VK} {D : Ends} {ta tb te tl : TE} {tbd : TS} {wi : TI} {g : TG} {tt : TT} {vs : List Nat} {p : Addr} {xs : List V} {z : Int} {k : Nat} {v : V}
def tForK (g : TG) (tb : TS) (D : Ends) (σ : L2.St) (J : It) (H1 : Hp) : Prop := ∃ W : Nat → Nat → L2.St → Hp → Prop, (∃ m, W 0 m σ H1) ∧ ∀ i m σ H, W i m σ H →
  (J.stop i H ∧ D.nx σ H) ∨ (J.go i H ∧ ∃ N : L2.St → Hp → Prop, (∀ σ' H', N σ' H' → ∃ m', m' < m ∧ W (i + 1) m' σ' H') ∧ ∀ x H', J.yld i H x H' → g x σ H' fun σ2 H2 => tb { D with nx := N, ct := N, bk := D.nx } σ2 H2)
def tLcK (g : TG) (tt : TT) (te : TE) (vs : List Nat) (σ : L2.St) (Q : VK) (J : It) (H1 : Hp) : Prop := ∀ D, H1 D = none → ∃ W : Nat → Nat → Hp → Prop, (∃ m, W 0 m (upd H1 D (.lst []))) ∧ ∀ i m H, W i m H →
  (J.stop i H ∧ Q (.ref D) H) ∨ (J.go i H ∧ ∃ Nx : Hp → Prop, (∀ H', Nx H' → ∃ m', m' < m ∧ W (i + 1) m' H') ∧ ∀ x H', J.yld i H x H' → g x (wipe σ vs) H' fun σ2 H2 => wipe σ2 vs = wipe σ vs ∧ tt σ2 H2 fun b H3 =>
    if b = true then te σ2 H3 fun y H4 => ∃ acc, H4 D = some (.lst acc) ∧ acc.length < sizeLine ∧ Nx (upd H4 D (.lst (acc ++ [y]))) else Nx H3)
theorem g_nn {R : Prop} (h : R) : V.non = V.non ∧ R := ⟨rfl, h⟩
theorem g_yes {Q : Bool → Hp → Prop} (h : Q true H) : tYes σ H Q := h
theorem g_for (h : wi σ H (tForK g tbd D σ)) : tFor wi g tbd D σ H := h
theorem g_lc (h : wi σ H (tLcK g tt te vs σ Q)) : tLc wi g tt te vs σ H Q := h
theorem g_iList {R : It → Hp → Prop} (h : tl σ H fun x H1 => ∃ a, x = .ref a ∧ (∃ xs, SqL K H1 a xs) ∧ R (Itl K a) H1) : iList K tl σ H R := h
theorem g_iRng1 {tr : TA} {R : It → Hp → Prop} (h : tr σ H fun vs H1 => ∃ j : Int, vs = [.int j] ∧ -(2 ^ 62) ≤ j ∧ j < 2 ^ 62 ∧ R (Itr 0 j.toNat) H1) : iRng1 tr σ H R := h
theorem g_iRng2 {tr : TA} {R : It → Hp → Prop} (h : tr σ H fun vs H1 => ∃ i j : Int, vs = [.int i, .int j] ∧ (-(2 ^ 62) ≤ i ∧ i < 2 ^ 62 ∧ -(2 ^ 62) ≤ j ∧ j < 2 ^ 62) ∧ R (Itr i (j - i).toNat) H1) : iRng2 tr σ H R := h
theorem g_sl {r : V → Option Int → Option Int → Hp → VK → Prop} {tlo thi : TO} (h : te σ H fun x H1 => tlo σ H1 fun l H2 => thi σ H2 fun u H3 => r x l u H3 Q) : tSl r te tlo thi σ H Q := h
theorem g_noPart {Q : Option Int → Hp → Prop} (h : Q none H) : tNoPart σ H Q := h
theorem g_part {Q : Option Int → Hp → Prop} (h : te σ H fun x H1 => ∃ i, x = .int i ∧ Q (some i) H1) : tPart te σ H Q := h
theorem g_ex1 {Q : Int → Prop} (h : Q z) : ∃ i, V.int z = .int i ∧ Q i := ⟨z, rfl, h⟩
theorem g_ixS {x : Str} {c : Nat} (hl : x.length ≤ sizeLine) (ha : atI x.cps.toList z = some c) (h : Q (.str ⟨#[c]⟩) H) : rIxS (.str x) (.int z) H Q := ⟨x, z, c, rfl, rfl, hl, ha, h⟩
theorem g_bm {T : String} {r : V → List V → Hp → VK → Prop} {to : TE} {tr : TA} (h : to σ H fun x H1 => tyV K T x H1 ∧ tr σ H1 fun xs H2 => r x xs H2 Q) : tBM K T r to tr σ H Q := h
theorem g_tyL {R : Prop} (hs : H p = some (.lst xs)) (h : R) : tyV K "list" (.ref p) H ∧ R := ⟨.inl ⟨rfl, _, SqL.of hs⟩, h⟩
theorem g_app (hs : H p = some (.lst xs)) (hz : xs.length < sizeLine) (h : Q .non (upd H p (.lst (xs ++ [v])))) : rAppend (.ref p) [v] H Q := ⟨p, xs, v, rfl, rfl, hs, hz, h⟩
/-- for x in a list -/
theorem f_list (hS : SqL K H p xs) (Pv : Nat → L2.St → Hp → Prop) (h0 : Pv 0 σ H) (hl : ∀ i σ H, i ≤ xs.length → Pv i σ H → SqL K H p xs)
    (hs : ∀ i x σ H, xs[i]? = some x → Pv i σ H → g x σ H fun σ2 H2 => tbd { D with nx := Pv (i + 1), ct := Pv (i + 1), bk := D.nx } σ2 H2) (hd : ∀ σ H, Pv xs.length σ H → D.nx σ H) :
    ∃ a, V.ref p = .ref a ∧ (∃ xs, SqL K H a xs) ∧ tForK g tbd D σ (Itl K a) H := ⟨p, rfl, ⟨_, hS⟩, for_list Pv h0 hl hs hd⟩
/-- for k in range(z) -/
theorem f_rng1 (h1 : -(2 ^ 62) ≤ z) (h2 : z < 2 ^ 62) (Pv : Nat → L2.St → Hp → Prop) (h0 : Pv 0 σ H) (hs : ∀ i σ H, i < z.toNat → Pv i σ H → g (.int i) σ H fun σ2 H2 => tbd { D with nx := Pv (i + 1), ct := Pv (i + 1), bk := D.nx } σ2 H2) (hd : ∀ σ H, Pv z.toNat σ H → D.nx σ H) :
    ∃ j : Int, [V.int z] = [.int j] ∧ -(2 ^ 62) ≤ j ∧ j < 2 ^ 62 ∧ tForK g tbd D σ (Itr 0 j.toNat) H := ⟨z, rfl, h1, h2, for_range Pv h0 (fun i σ H hi p => by rw [Int.zero_add]; exact hs i σ H hi p) hd⟩
/-- a comprehension over a list -/
theorem f_lcL (hS : SqL K H p xs) (Pv : Addr → Nat → Hp → Prop) (h0 : ∀ D, H D = none → Pv D 0 (upd H D (.lst []))) (hl : ∀ D i H', H D = none → i ≤ xs.length → Pv D i H' → SqL K H' p xs)
    (hs : ∀ D i x H', H D = none → xs[i]? = some x → Pv D i H' → g x (wipe σ vs) H' fun σ2 H2 => wipe σ2 vs = wipe σ vs ∧ tt σ2 H2 fun b H3 => if b = true then te σ2 H3 fun y H4 => ∃ acc, H4 D = some (.lst acc) ∧ acc.length < sizeLine ∧ Pv D (i + 1) (upd H4 D (.lst (acc ++ [y]))) else Pv D (i + 1) H3)
    (hd : ∀ D H', H D = none → Pv D xs.length H' → Q (.ref D) H') : ∃ a, V.ref p = .ref a ∧ (∃ xs, SqL K H a xs) ∧ tLcK g tt te vs σ Q (Itl K a) H :=
  ⟨p, rfl, ⟨_, hS⟩, fun D nD => lc_list (xs := xs) (Pv D) (h0 D nD) (fun i H' hi q => hl D i H' nD hi q) (fun i x H' hx q => hs D i x H' nD hx q) fun H' q => hd D H' nD q⟩
/-- .. over range(z) -/
theorem f_lcR (h1 : -(2 ^ 62) ≤ z) (h2 : z < 2 ^ 62) (Pv : Addr → Nat → Hp → Prop) (h0 : ∀ D, H D = none → Pv D 0 (upd H D (.lst [])))
    (hs : ∀ D i H', H D = none → i < z.toNat → Pv D i H' → g (.int i) (wipe σ vs) H' fun σ2 H2 => wipe σ2 vs = wipe σ vs ∧ tt σ2 H2 fun b H3 => if b = true then te σ2 H3 fun y H4 => ∃ acc, H4 D = some (.lst acc) ∧ acc.length < sizeLine ∧ Pv D (i + 1) (upd H4 D (.lst (acc ++ [y]))) else Pv D (i + 1) H3)
    (hd : ∀ D H', H D = none → Pv D z.toNat H' → Q (.ref D) H') : ∃ j : Int, [V.int z] = [.int j] ∧ -(2 ^ 62) ≤ j ∧ j < 2 ^ 62 ∧ tLcK g tt te vs σ Q (Itr 0 j.toNat) H :=
  ⟨z, rfl, h1, h2, fun D nD => lc_range (Pv D) (h0 D nD) (fun i H' hi q => by rw [Int.zero_add]; exact hs D i H' nD hi q) fun H' q => hd D H' nD q⟩
/-- [f x for x in xs], nothing else made -/
theorem f_lcMap {j : Nat} (hS : SqL K H p xs) (hz : xs.length ≤ 100000) (f : V → V) (hw : ∀ x, wipe ((wipe σ vs).set j (some x)) vs = wipe σ vs)
    (he : ∀ (i : Nat) x H' (Q' : VK), xs[i]? = some x → Same H H' → Q' (f x) H' → te ((wipe σ vs).set j (some x)) H' Q') (hd : ∀ D, H D = none → Q (.ref D) (upd H D (.lst (xs.map f)))) :
    ∃ a, V.ref p = .ref a ∧ (∃ xs, SqL K H a xs) ∧ tLcK (gName j) tYes te vs σ Q (Itl K a) H :=
  f_lcL hS (fun D i H' => H' = upd H D (.lst ((xs.take i).map f))) (fun D _ => rfl) (fun D i H' nD _ e => by rw [e]; exact (same_new nD).seq hS)
    (fun D i x H' nD hx e => ⟨hw x, (by
      suffices hh : te ((wipe σ vs).set j (some x)) H' (fun y H4 => ∃ acc, H4 D = some (.lst acc) ∧ acc.length < sizeLine ∧ upd H4 D (.lst (acc ++ [y])) = upd H D (.lst ((xs.take (i + 1)).map f))) by exact hh
      refine he i x H' _ hx (by rw [e]; exact same_new nD) ?_
      have hi := (List.getElem?_eq_some_iff.mp hx).1
      subst e
      refine ⟨_, upd_same, ?_, ?_⟩
      · rw [List.length_map, List.length_take]; exact Nat.lt_of_le_of_lt (Nat.min_le_right _ _) (Nat.lt_of_le_of_lt hz (by decide))
      · rw [upd_upd, List.take_succ, hx]; simp)⟩) (fun D H' nD e => by rw [e, List.take_length]; exact hd D nD)
/-- [f i for i in range(z)], nothing else made -/
theorem f_lcMapR {j : Nat} (h1 : -(2 ^ 62) ≤ z) (h2 : z ≤ 100000) (f : Nat → V) (hw : ∀ x, wipe ((wipe σ vs).set j (some x)) vs = wipe σ vs)
    (he : ∀ (i : Nat) H' (Q' : VK), i < z.toNat → Same H H' → Q' (f i) H' → te ((wipe σ vs).set j (some (.int i))) H' Q') (hd : ∀ D, H D = none → Q (.ref D) (upd H D (.lst ((List.range z.toNat).map f)))) :
    ∃ j' : Int, [V.int z] = [.int j'] ∧ -(2 ^ 62) ≤ j' ∧ j' < 2 ^ 62 ∧ tLcK (gName j) tYes te vs σ Q (Itr 0 j'.toNat) H :=
  f_lcR h1 (by omega) (fun D i H' => H' = upd H D (.lst ((List.range i).map f))) (fun D _ => rfl)
    (fun D i H' nD hi e => ⟨hw _, (by
      suffices hh : te ((wipe σ vs).set j (some (.int i))) H' (fun y H4 => ∃ acc, H4 D = some (.lst acc) ∧ acc.length < sizeLine ∧ upd H4 D (.lst (acc ++ [y])) = upd H D (.lst ((List.range (i + 1)).map f))) by exact hh
      refine he i H' _ hi (by rw [e]; exact same_new nD) ?_
      subst e
      refine ⟨_, upd_same, ?_, ?_⟩
      · rw [List.length_map, List.length_range]; exact Nat.lt_of_lt_of_le (m := 100000) (by omega) (by decide)
      · rw [upd_upd, List.range_succ]; simp)⟩) (fun D H' nD e => by rw [e]; exact hd D nD)
end
theorem cut_to (xs : List V) (k : Nat) : cutV xs none (some (k : Int)) = xs.take k := by
  unfold cutV
  rw [show HT.sIx xs.length xs.length (some (k : Int)) = min k xs.length from HT.sIx_nat xs.length xs.length k, HT.sIx_none, List.drop_zero, Nat.sub_zero]
  by_cases h : k ≤ xs.length
  · rw [Nat.min_eq_left h]
  · rw [Nat.min_eq_right (by omega), List.take_length, List.take_of_length_le (by omega)]
theorem cut_from (xs : List V) (k : Nat) : cutV xs (some (k : Int)) none = xs.drop k := by
  unfold cutV
  rw [show HT.sIx xs.length 0 (some (k : Int)) = min k xs.length from HT.sIx_nat xs.length 0 k, HT.sIx_none]
  by_cases h : k ≤ xs.length
  · rw [Nat.min_eq_left h, List.take_of_length_le (by rw [List.length_drop] <;> omega)]
  · rw [Nat.min_eq_right (by omega), List.drop_of_length_le (Nat.le_refl _), List.drop_of_length_le (by omega), List.take_nil]
theorem g_slL {K : PySem.W.Frag} {H : Hp} {Q : VK} {p : Addr} {xs ys : List V} {lo hi : Option Int} (hS : SqL K H p xs) (e : cutV xs lo hi = ys) (h : ∀ q, H q = none → Q (.ref q) (upd H q (.lst ys))) : rSlL K (.ref p) lo hi H Q := ⟨p, xs, rfl, hS, by rw [e]; exact h⟩
theorem map_at {ns : List Int} {i : Nat} {x : V} (h : (ns.map V.int)[i]? = some x) : ∃ n, ns[i]? = some n ∧ x = .int n := by
  rw [List.getElem?_map] at h
  cases e : ns[i]? with
  | none => rw [e] at h; cases h
  | some n => rw [e] at h; exact ⟨n, rfl, (Option.some.inj h).symm⟩
theorem map_atS {ns : List Str} {i : Nat} {x : V} (h : (ns.map V.str)[i]? = some x) : ∃ n, ns[i]? = some n ∧ x = .str n := by
  rw [List.getElem?_map] at h
  cases e : ns[i]? with
  | none => rw [e] at h; cases h
  | some n => rw [e] at h; exact ⟨n, rfl, (Option.some.inj h).symm⟩
theorem lt_at {α : Type} {l : List α} {i : Nat} {x : α} (h : l[i]? = some x) : i < l.length := (List.getElem?_eq_some_iff.mp h).1
theorem sz_lt {n : Nat} (h : n < 100000) : n < sizeLine := Nat.lt_of_lt_of_le h (by decide)
theorem sz_le {n : Nat} (h : n ≤ 100000) : n ≤ sizeLine := Nat.le_trans h (by decide)
/-! ### data, texts -/
theorem len_cat (x y : Str) : (x ++ y).length = x.length + y.length := by rw [TL.len_tl, TL.tl_append, List.length_append, ← TL.len_tl, ← TL.len_tl]
theorem strOk_of {x : Str} (h : ∀ c ∈ x.cps.toList, c < 1114112) : PyData.strOk x = true := by
  unfold PyData.strOk; rw [← Array.all_toList, List.all_eq_true]; exact fun c hc => decide_eq_true (h c hc)
theorem strOk_mem {x : Str} (h : PyData.strOk x = true) : ∀ c ∈ x.cps.toList, c < 1114112 := by
  unfold PyData.strOk at h; rw [← Array.all_toList, List.all_eq_true] at h; exact fun c hc => of_decide_eq_true (h c hc)
theorem strOk_cat {x y : Str} (hx : PyData.strOk x = true) (hy : PyData.strOk y = true) : PyData.strOk (x ++ y) = true := strOk_of fun c hc => by
  have e : (x ++ y).cps.toList = x.cps.toList ++ y.cps.toList := TL.tl_append x y
  rw [e] at hc
  rcases List.mem_append.mp hc with h | h
  · exact strOk_mem hx c h
  · exact strOk_mem hy c h
theorem strOk_sign {x : Str} {c : Nat} (hx : PyData.strOk x = true) (h : c ∈ x.cps.toList) : PyData.strOk (⟨#[c]⟩ : Str) = true := strOk_of fun d hd => by
  have : d = c := by simpa using hd
  subst this; exact strOk_mem hx _ h
theorem shaped_list {ds : List PyData} (h1 : PyData.canLayAll0 ds = true) (h2 : PyData.depthAll ds ≤ 60) : SeqAt.shaped (.list ds) = true := by
  unfold SeqAt.shaped; rw [Bool.and_eq_true]
  exact ⟨by rw [PyData.canLay0]; exact h1, decide_eq_true (by rw [PyData.depth]; omega)⟩
theorem dpAll_strs {K : PySem.W.Frag} {H : Hp} : ∀ l : List Str, DpAll K H (l.map V.str) (l.map PyData.str)
  | [] => .nil
  | x :: r => .cons (.str x) (dpAll_strs r)
theorem lay_strs : ∀ l : List Str, (∀ z ∈ l, PyData.strOk z = true) → PyData.canLayAll0 (l.map PyData.str) = true
  | [], _ => rfl
  | x :: r, h => by
    rw [List.map_cons, PyData.canLayAll0, lay_strs r fun z hz => h z (List.mem_cons_of_mem _ hz), PyData.canLay0, h x List.mem_cons_self]; rfl
theorem depth_strs : ∀ l : List Str, PyData.depthAll (l.map PyData.str) = 0
  | [] => rfl
  | x :: r => by simp [PyData.depthAll, PyData.depth, depth_strs r]
theorem shaped_strs {l : List Str} (h : ∀ z ∈ l, PyData.strOk z = true) : SeqAt.shaped (.list (l.map PyData.str)) = true := shaped_list (lay_strs l h) (by rw [depth_strs]; decide)
theorem eqv_same {d : PyData} (h : SeqAt.shaped d = true) : PyData.eqv d d = true := SeqAt.eqv_refl d (SeqAt.canLay_of_shaped h)
theorem at_z {α : Type} {xs : List α} {z : Int} {j : Nat} {v : α} (e : z = (j : Int)) (h : xs[j]? = some v) : atI xs z = some v := by
  rw [e]; exact atI_nat h
section
variable {K : PySem.W.Frag} {σ : L2.St} {H : Hp} {Q : VK} {te to : TE}
theorem g_two {Q : Int → Int → Prop} {i j : Int} (h : Q i j) : ∃ a b, [V.int i, V.int j] = [.int a, .int b] ∧ Q a b := ⟨i, j, rfl, h⟩
theorem g_lenStr {Q : Str → Prop} {x : Str} (hl : x.length ≤ sizeLine) (h : Q x) : ∃ y, [V.str x] = [.str y] ∧ y.length ≤ sizeLine ∧ Q y := ⟨x, rfl, hl, h⟩
theorem g_m1 {r : V → List V → Hp → VK → Prop} (h : to σ H fun x H1 => (∃ a, x = .str a) ∧ te σ H1 fun y H2 => r x [y] H2 Q) : tM1 r to te σ H Q := h
theorem g_isS {x : Str} {R : Prop} (h : R) : (∃ a, V.str x = .str a) ∧ R := ⟨⟨x, rfl⟩, h⟩
theorem g_addS {x y : Str} {Q : Str → Str → Prop} (hz : x.length + y.length ≤ sizeLine) (h : Q x y) : ∃ i j, V.str x = .str i ∧ V.str y = .str j ∧ i.length + j.length ≤ sizeLine ∧ Q i j := ⟨x, y, rfl, rfl, hz, h⟩
theorem g_mulS {x : Str} {n : Int} {Q : Str → Int → Prop} (h1 : x.length ≤ 16) (h2 : n ≤ 1048576) (h3 : -(2 ^ 63 : Int) ≤ n) (h : Q x n) : ∃ z m, V.str x = .str z ∧ V.int n = .int m ∧ z.length ≤ 16 ∧ m ≤ 1048576 ∧ -(2 ^ 63 : Int) ≤ m ∧ Q z m := ⟨x, n, rfl, rfl, h1, h2, h3, h⟩
theorem g_join {x : Str} {p : Addr} {ys : List Str} {Q : Str → List Str → Prop} (hS : SqL K H p (ys.map V.str)) (hz : (ys.map (·.length)).sum + ys.length * x.length ≤ 16777216) (h : Q x ys) :
    ∃ a p', ∃ zs : List Str, V.str x = .str a ∧ [V.ref p] = [.ref p'] ∧ (SqL K H p' (zs.map V.str) ∨ SqT K H p' (zs.map V.str)) ∧ (zs.map (·.length)).sum + zs.length * a.length ≤ 16777216 ∧ Q a zs := ⟨x, p, ys, rfl, rfl, .inl hS, hz, h⟩
end
theorem map_atG {α : Type} {f : α → V} {l : List α} {i : Nat} {x : V} (h : (l.map f)[i]? = some x) : ∃ a, l[i]? = some a ∧ x = f a := by
  rw [List.getElem?_map] at h
  cases e : l[i]? with
  | none => rw [e] at h; cases h
  | some n => rw [e] at h; exact ⟨n, rfl, (Option.some.inj h).symm⟩
theorem foldl_cps (c : Array Nat) : ∀ (k : Nat) (acc : Array Nat), ((List.replicate k c).foldl (· ++ ·) acc).toList = acc.toList ++ (List.replicate k c.toList).flatten
  | 0, acc => by simp
  | k + 1, acc => by rw [List.replicate_succ, List.foldl_cons, foldl_cps c k, List.replicate_succ]; simp
theorem flat_one (a : Nat) : ∀ k : Nat, (List.replicate k [a]).flatten = List.replicate k a
  | 0 => rfl
  | k + 1 => by rw [List.replicate_succ, List.flatten_cons, flat_one a k, List.replicate_succ]; rfl
/-- one sign, n times -/
theorem mul_one_sign (c : Nat) (n : Int) : Txt.mul (⟨#[c]⟩ : Str) n = ⟨(List.replicate n.toNat c).toArray⟩ := by
  refine TL.ext_tl ?_
  show TL.tl _ = List.replicate n.toNat c
  unfold Txt.mul
  by_cases h1 : n < 1
  · rw [if_pos h1, show n.toNat = 0 by omega]; rfl
  · rw [if_neg h1]
    split
    · rename_i h
      have : n = 1 := by
        rcases Bool.or_eq_true_iff.mp h with h | h
        · exact eq_of_beq h
        · cases h
      subst this; rfl
    · show ((List.replicate n.toNat #[c]).foldl (· ++ ·) #[]).toList = _
      rw [foldl_cps]
      show [] ++ (List.replicate n.toNat [c]).flatten = _
      rw [flat_one]; rfl
/-! ### [f x for row in rows for x in row] -/
section
variable {K : PySem.W.Frag} {σ : L2.St} {H : Hp} {Q : VK} {te : TE} {wi wi1 : TI} {g g1 : TG} {tt tt1 : TT} {vs vs1 : List Nat} {p : Addr}
def tLc2K (g : TG) (tt : TT) (wi1 : TI) (g1 : TG) (tt1 : TT) (te : TE) (vs vs1 : List Nat) (σ : L2.St) (Q : VK) (J : It) (H1 : Hp) : Prop := ∀ D, H1 D = none → ∃ W : Nat → Nat → Hp → Prop, (∃ m, W 0 m (upd H1 D (.lst []))) ∧ ∀ i m H, W i m H →
  (J.stop i H ∧ Q (.ref D) H) ∨ (J.go i H ∧ ∃ Nx : Hp → Prop, (∀ H', Nx H' → ∃ m', m' < m ∧ W (i + 1) m' H') ∧ ∀ x H', J.yld i H x H' → g x (wipe σ vs) H' fun σ2 H2 => wipe σ2 vs = wipe σ vs ∧ tt σ2 H2 fun b H3 =>
    if b = true then wi1 σ2 H3 fun J1 H4 => ∃ W1 : Nat → Nat → Hp → Prop, (∃ m, W1 0 m H4) ∧ ∀ j k H, W1 j k H →
      (J1.stop j H ∧ Nx H) ∨ (J1.go j H ∧ ∃ Nx1 : Hp → Prop, (∀ H', Nx1 H' → ∃ k', k' < k ∧ W1 (j + 1) k' H') ∧ ∀ x H', J1.yld j H x H' → g1 x (wipe σ2 vs1) H' fun σ3 H5 => wipe σ3 vs1 = wipe σ2 vs1 ∧ tt1 σ3 H5 fun b H6 =>
        if b = true then te σ3 H6 fun y H7 => ∃ acc, H7 D = some (.lst acc) ∧ acc.length < sizeLine ∧ Nx1 (upd H7 D (.lst (acc ++ [y]))) else Nx1 H6)
    else Nx H3)
theorem g_lc2 (h : wi σ H (tLc2K g tt wi1 g1 tt1 te vs vs1 σ Q)) : tLc2 wi g tt wi1 g1 tt1 te vs vs1 σ H Q := h
theorem f_lc2Map {j1 j2 : Nat} {ps : List Addr} (row : Addr → List V) (hS : SqL K H p (ps.map V.ref)) (hr : ∀ a ∈ ps, SqL K H a (row a)) (hz : ((ps.map row).flatten).length ≤ 100000) (f : V → V)
    (hw : ∀ x, wipe ((wipe σ vs).set j1 (some x)) vs = wipe σ vs) (hj : ∀ x, ((wipe σ vs).set j1 (some x))[j1]? = some (some x)) (hw1 : ∀ x y, wipe ((wipe ((wipe σ vs).set j1 (some x)) vs1).set j2 (some y)) vs1 = wipe ((wipe σ vs).set j1 (some x)) vs1)
    (he : ∀ a x H' (Q' : VK), a ∈ ps → x ∈ row a → Same H H' → Q' (f x) H' → te ((wipe ((wipe σ vs).set j1 (some (.ref a))) vs1).set j2 (some x)) H' Q') (hd : ∀ D, H D = none → Q (.ref D) (upd H D (.lst (((ps.map row).flatten).map f)))) :
    ∃ a, V.ref p = .ref a ∧ (∃ xs, SqL K H a xs) ∧ tLc2K (gName j1) tYes (iList K (tVar j1)) (gName j2) tYes te vs vs1 σ Q (Itl K a) H := by
  refine ⟨p, rfl, ⟨_, hS⟩, fun D nD => ⟨fun i m H' => m = ps.length - i ∧ i ≤ ps.length ∧ H' = upd H D (.lst ((((ps.take i).map row).flatten).map f)), ⟨ps.length, rfl, Nat.zero_le _, rfl⟩, ?_⟩⟩
  rintro i m H' ⟨rfl, hi, rfl⟩
  have hS' : SqL K (upd H D (.lst ((((ps.take i).map row).flatten).map f))) p (ps.map V.ref) := (same_new nD).seq hS
  by_cases hlt : i < ps.length
  · have ei : ps[i]? = some ps[i] := List.getElem?_eq_getElem hlt
    generalize ps[i] = a at ei
    have ex : (ps.map V.ref)[i]? = some (.ref a) := by rw [List.getElem?_map, ei]; rfl
    have ha := List.mem_of_getElem? ei
    refine .inr ⟨⟨_, _, hS', ex⟩, fun H2 => H2 = upd H D (.lst ((((ps.take (i + 1)).map row).flatten).map f)), fun H2 e => ⟨ps.length - (i + 1), by omega, rfl, hlt, e⟩, fun x H2 hy => ?_⟩
    obtain ⟨rfl, fx⟩ := hy
    have : x = .ref a := Option.some.inj ((fx _ hS').symm.trans ex)
    subst this
    refine ⟨hw _, ?_⟩
    suffices hh : iList K (tVar j1) ((wipe σ vs).set j1 (some (.ref a))) (upd H D (.lst ((((ps.take i).map row).flatten).map f))) (fun J1 H4 => ∃ W1 : Nat → Nat → Hp → Prop, (∃ m, W1 0 m H4) ∧ ∀ j k H3, W1 j k H3 →
      (J1.stop j H3 ∧ H3 = upd H D (.lst ((((ps.take (i + 1)).map row).flatten).map f))) ∨ (J1.go j H3 ∧ ∃ Nx1 : Hp → Prop, (∀ H', Nx1 H' → ∃ k', k' < k ∧ W1 (j + 1) k' H') ∧ ∀ x H', J1.yld j H3 x H' → gName j2 x (wipe ((wipe σ vs).set j1 (some (.ref a))) vs1) H' fun σ3 H5 => wipe σ3 vs1 = wipe ((wipe σ vs).set j1 (some (.ref a))) vs1 ∧ tYes σ3 H5 fun b H6 =>
        if b = true then te σ3 H6 fun y H7 => ∃ acc, H7 D = some (.lst acc) ∧ acc.length < sizeLine ∧ Nx1 (upd H7 D (.lst (acc ++ [y]))) else Nx1 H6)) by exact hh
    have hra : SqL K H a (row a) := hr a ha
    refine ⟨.ref a, hj _, a, rfl, ⟨_, (same_new nD).seq hra⟩, fun j k H3 => k = (row a).length - j ∧ j ≤ (row a).length ∧ H3 = upd H D (.lst ((((ps.take i).map row).flatten ++ (row a).take j).map f)), ⟨(row a).length, rfl, Nat.zero_le _, by rw [List.take_zero, List.append_nil]⟩, ?_⟩
    rintro j k H3 ⟨rfl, hjl, rfl⟩
    have hra' : SqL K (upd H D (.lst ((((ps.take i).map row).flatten ++ (row a).take j).map f))) a (row a) := (same_new nD).seq hra
    have etk : ((ps.take (i + 1)).map row).flatten = ((ps.take i).map row).flatten ++ row a := by rw [List.take_succ, ei]; simp
    by_cases hj2 : j < (row a).length
    · have ej : (row a)[j]? = some (row a)[j] := List.getElem?_eq_getElem hj2
      generalize (row a)[j] = y at ej
      refine .inr ⟨⟨_, _, hra', ej⟩, fun H4 => H4 = upd H D (.lst ((((ps.take i).map row).flatten ++ (row a).take (j + 1)).map f)), fun H4 e => ⟨(row a).length - (j + 1), by omega, rfl, hj2, e⟩, fun x H4 hy => ?_⟩
      obtain ⟨rfl, fy⟩ := hy
      have : x = y := Option.some.inj ((fy _ hra').symm.trans ej)
      subst this
      refine ⟨hw1 _ _, ?_⟩
      suffices hh : te ((wipe ((wipe σ vs).set j1 (some (.ref a))) vs1).set j2 (some x)) (upd H D (.lst ((((ps.take i).map row).flatten ++ (row a).take j).map f))) (fun y H7 => ∃ acc, H7 D = some (.lst acc) ∧ acc.length < sizeLine ∧ upd H7 D (.lst (acc ++ [y])) = upd H D (.lst ((((ps.take i).map row).flatten ++ (row a).take (j + 1)).map f))) by exact hh
      refine he a x _ _ ha (List.mem_of_getElem? ej) (same_new nD) ⟨_, upd_same, sz_lt ?_, ?_⟩
      · have h1 : (((ps.take i).map row).flatten ++ row a).length ≤ ((ps.map row).flatten).length := by
          rw [← etk]
          have : (ps.map row).flatten = ((ps.take (i + 1)).map row).flatten ++ ((ps.drop (i + 1)).map row).flatten := by rw [← List.flatten_append, ← List.map_append, List.take_append_drop]
          rw [this, List.length_append]; omega
        rw [List.length_append] at h1
        rw [List.length_map, List.length_append, List.length_take]; omega
      · rw [upd_upd, List.take_succ, ej, ← List.append_assoc]; simp
    · refine .inl ⟨⟨_, hra', by omega⟩, ?_⟩
      rw [etk, show j = (row a).length by omega, List.take_length]
  · refine .inl ⟨⟨_, hS', by rw [List.length_map]; omega⟩, ?_⟩
    rw [show i = ps.length by omega, List.take_length]
    exact hd D nD
end
section
variable {K : PySem.W.Frag} {σ : L2.St} {H : Hp} {Q : VK}
theorem g_ckw {r : List V → List V → Hp → VK → Prop} {tr tk : TA} (h : tr σ H fun vs H1 => tk σ H1 fun zs H2 => r vs zs H2 Q) : tCKw r tr tk σ H Q := h
theorem g_iZip {ta : TA} {R : It → Hp → Prop} (h : ta σ H fun vs H1 => ∃ a b xs ys, vs = [.ref a, .ref b] ∧ SqL K H1 a xs ∧ SqL K H1 b ys ∧ R (Itz K a b) H1) : iZip K ta σ H R := h
theorem g_pad {x : Str} {i : Int} {Q : Str → Int → Prop} (hp : PadOk i = true) (h : Q x i) : ∃ a j, V.str x = .str a ∧ [V.int i] = [.int j] ∧ PadOk j = true ∧ Q a j := ⟨x, i, rfl, rfl, hp, h⟩
theorem padOk_small {i : Int} (h0 : 0 ≤ i) (h : i ≤ 100000) : PadOk i = true := by
  have hz : i.toNat ≤ sizeLine := sz_le (by omega)
  unfold PadOk fitsSsize Builtin.Str.tooLong
  rw [Bool.and_eq_true]
  refine ⟨?_, ?_⟩
  · simp; omega
  · simp; omega
end
section
variable {K : PySem.W.Frag} {σ : L2.St} {H : Hp} {Q : VK} {ta tb : TE}
theorem g_andV (h : ta σ H fun x H1 => ∃ c, x = .bl c ∧ if c = true then tb σ H1 Q else Q (.bl false) H1) : tAndV ta tb σ H Q := h
theorem g_orV (h : ta σ H fun x H1 => ∃ c, x = .bl c ∧ if c = true then Q (.bl true) H1 else tb σ H1 Q) : tOrV ta tb σ H Q := h
theorem iteNT {A B : Prop} (h : B) : if (!true) = true then A else B := by simpa using h
theorem iteNF {A B : Prop} (h : A) : if (!false) = true then A else B := by simpa using h
theorem g_listOf {p : Addr} {xs : List V} {Q : List V → Prop} (hs : SqL K H p xs) (h : Q xs) : ∃ p' ys, [V.ref p] = [.ref p'] ∧ (SqL K H p' ys ∨ SqT K H p' ys) ∧ Q ys := ⟨p, xs, rfl, .inl hs, h⟩
/-- isinstance of a text, an int, a list .. -/
theorem g_isiB {x : V} {T U : String} {b : Bool} (ty : TyX K H x (.type T)) (e : kitB T U = some b) (h : Q (.bl b) H) : rIsi K [x, .ty U] H Q := ⟨x, .ty U, _, _, b, rfl, .ty U, ty, kit_ty e, h⟩
end
/-! ### while, break, texts, powers -/
section
variable {K : PySem.W.Frag} {σ : L2.St} {H : Hp} {Q : VK} {D : Ends} {ta tb te : TE} {c : TT} {tbd : TS}
theorem f_while (W : Nat → L2.St → Hp → Prop) (m0 : Nat) (h0 : W m0 σ H)
    (hs : ∀ m σ H, W m σ H → c σ H fun b H1 => if b = true then ∃ N : L2.St → Hp → Prop, (∀ σ' H', N σ' H' → ∃ m', m' < m ∧ W m' σ' H') ∧ tbd { D with nx := N, ct := N, bk := D.nx } σ H1 else D.nx σ H1) : tWhile c tbd D σ H :=
  ⟨W, ⟨m0, h0⟩, hs⟩
theorem g_turn {W : Nat → L2.St → Hp → Prop} {m : Nat} {r : VK} {bk : L2.St → Hp → Prop} (h : tbd { nx := fun σ' H' => ∃ m', m' < m ∧ W m' σ' H', rt := r, bk := bk, ct := fun σ' H' => ∃ m', m' < m ∧ W m' σ' H' } σ H) :
    ∃ N : L2.St → Hp → Prop, (∀ σ' H', N σ' H' → ∃ m', m' < m ∧ W m' σ' H') ∧ tbd { nx := N, rt := r, bk := bk, ct := N } σ H := ⟨_, fun _ _ h => h, h⟩
theorem g_aug {k : Nat} {x : V} {ti : TIp} (e : σ[k]? = some (some x)) (h : te σ H fun y H1 => ti x y H1 fun z H2 => D.nx (σ.set k (some z)) H2) : tAug k te ti D σ H := ⟨x, e, h⟩
theorem g_ipI {g : Int → Int → Int} {i j : Int} (h : Q (.int (g i j)) H) : ipI g (.int i) (.int j) H Q := ⟨i, j, rfl, rfl, h⟩
theorem g_brk (h : D.bk σ H) : tBreak D σ H := h
theorem g_cont (h : D.ct σ H) : tCont D σ H := h
def CPowW (i j : Int) : Prop := 0 ≤ j ∧ (Builtin.Int.intBits i : Int) * j ≤ 2 ^ 27
theorem op_powW {X : Cx} : OpR X (binaryOp .Pow) (rI CPowW fun i j => .int (i ^ j.toNat)) := opI fun _ _ _ _ _ _ _ hc q => PyProof.Rows.pow_int hc.1 hc.2 q
theorem g_slS {x : Str} {lo hi : Option Int} {y : Str} (hl : x.length ≤ sizeLine) (e : cutS x lo hi = y) (h : Q (.str y) H) : rSlS (.str x) lo hi H Q := ⟨x, rfl, hl, by rw [e]; exact h⟩
/-- a slice of a text, both ends within or beyond -/
theorem cutS_nat (l : List Nat) (a b : Nat) : cutS (⟨l.toArray⟩ : Str) (some (a : Int)) (some (b : Int)) = ⟨((l.drop a).take (b - a)).toArray⟩ := by
  unfold cutS
  have e : (⟨l.toArray⟩ : Str).length = l.length := by simp [Str.length]
  rw [e, show HT.sIx l.length 0 (some (a : Int)) = min a l.length from HT.sIx_nat l.length 0 a, show HT.sIx l.length l.length (some (b : Int)) = min b l.length from HT.sIx_nat l.length l.length b]
  refine congrArg (fun l : List Nat => (⟨l.toArray⟩ : Str)) ?_
  show (l.drop (min a l.length)).take _ = _
  by_cases ha : a ≤ l.length
  · rw [Nat.min_eq_left ha]
    by_cases hb : b ≤ l.length
    · rw [Nat.min_eq_left hb]
    · rw [Nat.min_eq_right (by omega), List.take_of_length_le (by rw [List.length_drop] <;> omega), List.take_of_length_le (by rw [List.length_drop]; omega)]
  · rw [Nat.min_eq_right (show l.length ≤ a by omega), List.drop_of_length_le (Nat.le_refl _), List.drop_of_length_le (show l.length ≤ a by omega), List.take_nil, List.take_nil]
theorem cutS_to (l : List Nat) (b : Nat) : cutS (⟨l.toArray⟩ : Str) none (some (b : Int)) = ⟨(l.take b).toArray⟩ := by
  unfold cutS
  have e : (⟨l.toArray⟩ : Str).length = l.length := by simp [Str.length]
  rw [e, HT.sIx_none, show HT.sIx l.length l.length (some (b : Int)) = min b l.length from HT.sIx_nat l.length l.length b]
  refine congrArg (fun l : List Nat => (⟨l.toArray⟩ : Str)) ?_
  show (l.drop 0).take _ = _
  rw [List.drop_zero, Nat.sub_zero]
  by_cases hb : b ≤ l.length
  · rw [Nat.min_eq_left hb]
  · rw [Nat.min_eq_right (by omega), List.take_length, List.take_of_length_le (by omega)]
theorem g_sign {a : Nat} {z : Str} {Q : Nat → Str → Prop} (h : Q a z) : ∃ (c : Nat) (y : Str), V.str (⟨#[a]⟩ : Str) = .str ⟨#[c]⟩ ∧ V.str z = .str y ∧ Q c y := ⟨a, z, rfl, rfl, h⟩
end
section
variable {K : PySem.W.Frag} {H : Hp} {Q : VK} {p : Addr} {xs : List V} {v : V}
theorem g_ixT {z : Int} (hs : SqT K H p xs) (ha : atI xs z = some v) (h : Q v H) : rIxT K (.ref p) (.int z) H Q := ⟨p, xs, z, v, rfl, rfl, hs, ha, h⟩
theorem g_lenT {Q : List V → Prop} (hs : SqT K H p xs) (h : Q xs) : ∃ p' ys, [V.ref p] = [.ref p'] ∧ (SqL K H p' ys ∨ SqT K H p' ys) ∧ Q ys := ⟨p, xs, rfl, .inr hs, h⟩
theorem g_isiS {x : Str} {U : String} {b : Bool} (e : kitB "str" U = some b) (h : Q (.bl b) H) : rIsi K [.str x, .ty U] H Q := g_isiB (.base (.str _)) e h
theorem g_isiI {i : Int} {U : String} {b : Bool} (e : kitB "int" U = some b) (h : Q (.bl b) H) : rIsi K [.int i, .ty U] H Q := g_isiB (.base (.int _)) e h
end
theorem log_small {i : Int} (h0 : 0 ≤ i) (h : i ≤ 1000000) : i.natAbs.log2 < 1920 := by
  by_cases hz : i.natAbs = 0
  · rw [hz]; decide
  · exact Nat.lt_trans ((Nat.log2_lt hz (k := 20)).mpr (by omega)) (by decide)
theorem my_c0 {X : Cx} {k j : Nat} {x : Str} {sp : Sp} {dvs : List V} {p pos : Pos} (c : C8.Cal X.prog X.w X.K X.mg X.base k x sp dvs) (hr : Room j X.A) (hk : k ≤ j) (hg : Gl X x) (hdb : (x == ("__debug__" : Str)) = false := by decide) : PE X (.Call (.Name x p) [] [] pos) (tCall sp dvs C8.E0 tNil) := by
  obtain ⟨f, fd, ps, ds, F, hm, kp, b, d⟩ := c.ex
  exact pe_call0 F (hr.mono hk) hg hm kp b d C8.pass0 hdb
end WL
set_option Elab.async false
set_option linter.all false
set_option maxRecDepth 100000
set_option maxHeartbeats 4000000
namespace K00
open PySem PySem.Spec PyProof.Rows L2 WL
local macro_rules | `(tactic| walk_at "lk") => `(tactic| first
  | exact upd_same
  | assumption
  | (rw [upd_ne (by assumption)]; first | exact upd_same | assumption | (rw [upd_ne (by assumption)]; first | exact upd_same | assumption | (rw [upd_ne (by assumption)]; first | exact upd_same | assumption))))
local macro_rules | `(tactic| walk_at "go1") => `(tactic| first
  | (with_reducible refine g_seq ?_)
  | (with_reducible refine g_asg ?_)
  | (with_reducible refine g_name ?_)
  | (with_reducible refine g_sub ?_)
  | ((with_reducible refine' g_var ?gv ?_); (case gv => exact rfl))
  | (with_reducible refine g_c ?_)
  | (with_reducible refine g_op ?_)
  | (with_reducible refine g_un ?_)
  | (with_reducible refine g_I0 ?_)
  | ((with_reducible refine g_I ?gc ?_); (case gc => first | assumption | decide | (show (0 : Int) < _; omega) | exact Or.inr ⟨by omega, by omega⟩ | exact Or.inl ⟨by omega, by omega⟩ | exact ⟨by omega, by omega⟩))
  | (with_reducible refine iteT ?_)
  | (with_reducible refine iteF ?_)
  | (with_reducible refine iteNT ?_)
  | (with_reducible refine iteNF ?_)
  | (with_reducible refine g_andV ?_)
  | (with_reducible refine g_orV ?_)
  | ((with_reducible refine' g_lenS (by assumption) ?_))
  | ((with_reducible refine' g_lenS (SqL.of (by walk_at "lk")) ?_))
  | (with_reducible refine g_U ?_)
  | ((with_reducible refine g_eq ?gs ?_); (case gs => rfl))
  | ((with_reducible refine g_ne ?gs ?_); (case gs => rfl))
  | (with_reducible refine g_drop ?_)
  | (with_reducible refine g_ret ?_)
  | (with_reducible refine g_next ?_)
  | (with_reducible refine g_ifS ?_)
  | (with_reducible refine g_ifE ?_)
  | (with_reducible refine g_test ?_)
  | (with_reducible refine g_tb ?_)
  | (with_reducible refine g_bl ?_)
  | (with_reducible refine g_not ?_)
  | (with_reducible refine g_and ?_)
  | (with_reducible refine g_or ?_)
  | (with_reducible refine g_nil ?_)
  | (with_reducible refine g_cons ?_)
  | (with_reducible refine g_cb ?_)
  | (with_reducible refine g_call ?_)
  | (with_reducible refine g_int ?_)
  | (with_reducible refine g_two ?_)
  | ((with_reducible refine g_lenStr ?gz ?_); (case gz => first | assumption | exact sz_le (by omega)))
  | (with_reducible refine g_m1 ?_)
  | (with_reducible refine g_isS ?_)
  | (with_reducible refine g_nn ?_)
  | (with_reducible refine g_yes ?_)
  | (with_reducible refine g_for ?_)
  | (with_reducible refine g_ckw ?_)
  | (with_reducible refine g_iZip ?_)
  | (with_reducible refine g_lc ?_)
  | (with_reducible refine g_lc2 ?_)
  | (with_reducible refine g_iList ?_)
  | (with_reducible refine g_iRng1 ?_)
  | (with_reducible refine g_iRng2 ?_)
  | (with_reducible refine g_sl ?_)
  | (with_reducible refine g_noPart ?_)
  | (with_reducible refine g_part ?_)
  | (with_reducible refine g_ex1 ?_)
  | (with_reducible refine g_bm ?_)
  | ((with_reducible refine' g_tyL (by walk_at "lk") ?_))
  | ((with_reducible refine' g_aug ?gv ?_); (case gv => exact rfl))
  | (with_reducible refine g_ipI ?_)
  | (with_reducible refine g_turn ?_)
  | (with_reducible refine g_brk ?_)
  | (with_reducible refine g_cont ?_)
  | (with_reducible refine g_sign ?_)
  | (with_reducible refine g_lst ?_)
  | (with_reducible refine g_tup ?_)
  | ((with_reducible refine' g_ixL (by assumption) ?ga ?_); (case ga => assumption))
  | ((with_reducible refine' g_ixL (SqL.of (by walk_at "lk")) ?ga ?_); (case ga => first | exact rfl | assumption))
  | ((with_reducible refine' g_ixT (SqT.of (by walk_at "lk")) ?ga ?_); (case ga => first | exact rfl | assumption))
  | ((with_reducible refine' g_lenT (SqT.of (by walk_at "lk")) ?_))
  | ((with_reducible refine' g_isiS (b := true) ?ga ?_); (case ga => decide +kernel))
  | ((with_reducible refine' g_isiS (b := false) ?ga ?_); (case ga => decide +kernel))
  | ((with_reducible refine' g_isiI (b := true) ?ga ?_); (case ga => decide +kernel))
  | ((with_reducible refine' g_isiI (b := false) ?ga ?_); (case ga => decide +kernel))
  | ((with_reducible refine' g_setL2 ?ga ?gb ?_); (case ga => exact rfl); (case gb => exact rfl))
  | ((with_reducible refine' g_setL (by walk_at "lk") ?ga ?gb ?_); (case ga => exact rfl); (case gb => exact rfl)))
local macro_rules | `(tactic| walk_at "go") => `(tactic| ((repeat walk_at "go1"); try dsimp only [List.set, List.cons_append, List.nil_append]))
def topS (i : Nat) : Stmt := PySem.Challenge.pw_gatesworn_k00_tokens.main.body.getD i (.Pass ⟨0, 0, 0, 0⟩)
abbrev s_tokens : Stmt := topS 17
theorem sc_tokens : FnScope ["text", "line", "found", "at", "end", "word", "kind"] ["text", "line"] (defScope s_tokens) := ⟨rfl, rfl, rfl, by decide +kernel, rfl, by decide +kernel, by decide +kernel⟩
abbrev s__end_of_token : Stmt := topS 18
theorem sc__end_of_token : FnScope ["text", "at"] ["text", "at"] (defScope s__end_of_token) := ⟨rfl, rfl, rfl, by decide +kernel, rfl, by decide +kernel, by decide +kernel⟩
abbrev s__end_of_run : Stmt := topS 19
theorem sc__end_of_run : FnScope ["text", "at", "signs"] ["text", "at", "signs"] (defScope s__end_of_run) := ⟨rfl, rfl, rfl, by decide +kernel, rfl, by decide +kernel, by decide +kernel⟩
abbrev s__kind_of : Stmt := topS 20
theorem sc__kind_of : FnScope ["word"] ["word"] (defScope s__kind_of) := ⟨rfl, rfl, rfl, by decide +kernel, rfl, by decide +kernel, by decide +kernel⟩
abbrev s__is_number : Stmt := topS 21
theorem sc__is_number : FnScope ["digits"] ["digits"] (defScope s__is_number) := ⟨rfl, rfl, rfl, by decide +kernel, rfl, by decide +kernel, by decide +kernel⟩
abbrev s__law_bag : Stmt := topS 23
theorem sc__law_bag : FnScope ["script", "cell"] ["script"] (defScope s__law_bag) := ⟨rfl, rfl, rfl, by decide +kernel, rfl, by decide +kernel, by decide +kernel⟩
abbrev s__law_draw : Stmt := topS 24
theorem sc__law_draw : FnScope ["bag", "size", "cell", "got", "first", "second"] ["bag", "size"] (defScope s__law_draw) := ⟨rfl, rfl, rfl, by decide +kernel, rfl, by decide +kernel, by decide +kernel⟩
abbrev s__law_keywords : Stmt := topS 25
theorem sc__law_keywords : FnScope ["words"] [] (defScope s__law_keywords) := ⟨rfl, rfl, rfl, by decide +kernel, rfl, by decide +kernel, by decide +kernel⟩
abbrev s__law_symbols : Stmt := topS 26
theorem sc__law_symbols : FnScope [] [] (defScope s__law_symbols) := ⟨rfl, rfl, rfl, by decide +kernel, rfl, by decide +kernel, by decide +kernel⟩
abbrev s__law_name : Stmt := topS 27
theorem sc__law_name : FnScope ["bag", "longest", "signs", "word", "k"] ["bag", "longest"] (defScope s__law_name) := ⟨rfl, rfl, rfl, by decide +kernel, rfl, by decide +kernel, by decide +kernel⟩
abbrev s__law_number : Stmt := topS 28
theorem sc__law_number : FnScope ["bag", "way"] ["bag"] (defScope s__law_number) := ⟨rfl, rfl, rfl, by decide +kernel, rfl, by decide +kernel, by decide +kernel⟩
abbrev s__law_word : Stmt := topS 29
theorem sc__law_word : FnScope ["bag", "short", "way", "word"] ["bag", "short"] (defScope s__law_word) := ⟨rfl, rfl, rfl, by decide +kernel, rfl, by decide +kernel, by decide +kernel⟩
abbrev s__law_glued : Stmt := topS 30
theorem sc__law_glued : FnScope ["left", "right"] ["left", "right"] (defScope s__law_glued) := ⟨rfl, rfl, rfl, by decide +kernel, rfl, by decide +kernel, by decide +kernel⟩
abbrev s__law_comment : Stmt := topS 31
theorem sc__law_comment : FnScope ["bag", "room", "signs", "text", "k"] ["bag", "room"] (defScope s__law_comment) := ⟨rfl, rfl, rfl, by decide +kernel, rfl, by decide +kernel, by decide +kernel⟩
abbrev s__law_alike : Stmt := topS 32
theorem sc__law_alike : FnScope ["actual", "due", "k", "row"] ["actual", "due"] (defScope s__law_alike) := ⟨rfl, rfl, rfl, by decide +kernel, rfl, by decide +kernel, by decide +kernel⟩
abbrev s_law : Stmt := topS 33
theorem sc_law : FnScope ["script", "bag", "short", "noted", "line", "many", "text", "due", "last", "k", "word", "gap", "ends"] ["script"] (defScope s_law) := ⟨rfl, rfl, rfl, by decide +kernel, rfl, by decide +kernel, by decide +kernel⟩
structure Txt (K : PySem.W.Frag) (mg : Str → Option Value) (dA : Nat → Addr) : Prop where
  b_bool : mg "bool" = none
  b_int : mg "int" = none
  b_isinstance : mg "isinstance" = none
  b_len : mg "len" = none
  b_list : mg "list" = none
  b_range : mg "range" = none
  b_str : mg "str" = none
  b_tuple : mg "tuple" = none
  g_KEYWORDS : ∃ u, mg "KEYWORDS" = some u ∧ RelV (V.ref (dA 0)) u
  t_KEYWORDS : ∀ H : Hp, SqT K H (dA 0) [V.str (Str.ofString "module"), V.str (Str.ofString "end"), V.str (Str.ofString "in"), V.str (Str.ofString "out"), V.str (Str.ofString "wire"), V.str (Str.ofString "reg"), V.str (Str.ofString "mem"), V.str (Str.ofString "use"), V.str (Str.ofString "as"), V.str (Str.ofString "each"), V.str (Str.ofString "from"), V.str (Str.ofString "to"), V.str (Str.ofString "when"), V.str (Str.ofString "always"), V.str (Str.ofString "if"), V.str (Str.ofString "then"), V.str (Str.ofString "else"), V.str (Str.ofString "within"), V.str (Str.ofString "all"), V.str (Str.ofString "any"), V.str (Str.ofString "odd"), V.str (Str.ofString "promise")]
  g_LETTERS : ∃ u, mg "LETTERS" = some u ∧ RelV (V.str (Str.ofString "abcdefghijklmnopqrstuvwxyz")) u
  g_DIGITS : ∃ u, mg "DIGITS" = some u ∧ RelV (V.str (Str.ofString "0123456789")) u
  g_WORD_SIGNS : ∃ u, mg "WORD_SIGNS" = some u ∧ RelV (V.str (Str.ofString "abcdefghijklmnopqrstuvwxyz0123456789_")) u
  g_DOUBLE_SYMBOLS : ∃ u, mg "DOUBLE_SYMBOLS" = some u ∧ RelV (V.ref (dA 1)) u
  t_DOUBLE_SYMBOLS : ∀ H : Hp, SqT K H (dA 1) [V.str (Str.ofString "<="), V.str (Str.ofString "=="), V.str (Str.ofString "!="), V.str (Str.ofString ">="), V.str (Str.ofString "<<"), V.str (Str.ofString ">>")]
  g_SINGLE_SYMBOLS : ∃ u, mg "SINGLE_SYMBOLS" = some u ∧ RelV (V.str (Str.ofString "()[]{},:.=<+-*&|^~#@")) u
  g_MOST_TOKENS : ∃ u, mg "MOST_TOKENS" = some u ∧ RelV (V.int (40)) u
  g_LONGEST_NAME : ∃ u, mg "LONGEST_NAME" = some u ∧ RelV (V.int (16)) u
  g_LONGEST_NUMBER : ∃ u, mg "LONGEST_NUMBER" = some u ∧ RelV (V.int (5)) u
  g_GREATEST_NUMBER : ∃ u, mg "GREATEST_NUMBER" = some u ∧ RelV (V.int (65535)) u

end K00
set_option Elab.async false
set_option linter.all false
set_option maxRecDepth 100000
set_option maxHeartbeats 4000000
namespace K00
open PySem PySem.Spec PyProof.Rows L2 SX
def LET : List Nat := (List.range 26).map (· + 97)
def DIG : List Nat := (List.range 10).map (· + 48)
def WS : List Nat := LET ++ DIG ++ [95]
def DBL : List (List Nat) := [[60, 61], [61, 61], [33, 61], [62, 61], [60, 60], [62, 62]]
def GLU : List (List Nat) := [[61, 61], [60, 61], [60, 60], [45, 45]]
def cd (s : String) : List Nat := s.toList.map Char.toNat
def KWs : List (List Nat) := ["module", "end", "in", "out", "wire", "reg", "mem", "use", "as", "each", "from", "to", "when", "always", "if", "then", "else", "within", "all", "any", "odd", "promise"].map cd
def SYMS : List (List Nat) := ["(", ")", "[", "]", "{", "}", ",", ":", ".", "=", "<=", "==", "!=", "<", ">=", "<<", ">>", "+", "-", "*", "&", "|", "^", "~", "#", "@"].map cd
def SGL : List Nat := cd "()[]{},:.=<+-*&|^~#@"
def kKey : Str := Str.ofString "keyword"
def kName : Str := Str.ofString "name"
def kNum : Str := Str.ofString "number"
def kSym : Str := Str.ofString "symbol"
def Name (w : List Nat) : Prop := ∃ c r, w = c :: r ∧ c ∈ LET ∧ (∀ x ∈ r, x ∈ WS) ∧ r.length ≤ 15
inductive Good : Str → List Nat → Prop
  | key {w} : w ∈ KWs → Name w → Good kKey w
  | name {w} : Name w → w ∉ KWs → Good kName w
  | num (n : Nat) : n ≤ 65535 → Good kNum (TL.numL n)
  | sym {w} : w ∈ SYMS → Good kSym w
def tokLen (r : List Nat) : Nat := match r with
  | [] => 0
  | c :: t => if c ∈ LET then ((c :: t).takeWhile (fun x => decide (x ∈ WS))).length else if c ∈ DIG then ((c :: t).takeWhile (fun x => decide (x ∈ DIG))).length else if (c :: t).take 2 ∈ DBL then 2 else 1
def sep (w : List Nat) (c : Nat) : Prop := match w with
  | [] => True
  | h :: _ => if h ∈ LET then c ∉ WS else if h ∈ DIG then c ∉ DIG else w ++ [c] ∉ GLU
def glued (w : List Nat) (c : Nat) : Bool := match w with
  | [] => false
  | h :: _ => if h ∈ LET then decide (c ∈ LET ++ DIG) else if h ∈ DIG then decide (c ∈ DIG) else decide (w ++ [c] ∈ GLU)
theorem sep_glued {w : List Nat} {c : Nat} (h : glued w c = false) (hc : c ≠ 95) : sep w c := by
  cases w with
  | nil => trivial
  | cons a t =>
    unfold glued at h
    unfold sep
    by_cases h1 : a ∈ LET
    · simp only [h1, if_true] at h ⊢
      intro hm
      rcases List.mem_append.mp hm with hm | hm
      · exact of_decide_eq_false h hm
      · exact hc (List.mem_singleton.mp hm)
    · simp only [h1, if_false] at h ⊢
      by_cases h2 : a ∈ DIG
      · simp only [h2, if_true] at h ⊢
        exact of_decide_eq_false h
      · simp only [h2, if_false] at h ⊢
        exact of_decide_eq_false h
theorem tw_all {p : Nat → Bool} : ∀ {w r : List Nat}, (∀ x ∈ w, p x = true) → (∀ c, r.head? = some c → p c = false) → (w ++ r).takeWhile p = w
  | [], [], _, _ => rfl
  | [], c :: r, _, h => by rw [List.nil_append, List.takeWhile_cons, h c rfl]; rfl
  | x :: w, r, hw, h => by
    rw [List.cons_append, List.takeWhile_cons, hw x (List.mem_cons_self ..)]
    simp only [if_true]
    rw [tw_all (fun y hy => hw y (List.mem_cons_of_mem _ hy)) h]
theorem tw_at {p : Nat → Bool} : ∀ {r : List Nat} {k c : Nat}, r[k]? = some c → k ≤ (r.takeWhile p).length → (p c = true ↔ k < (r.takeWhile p).length)
  | [], k, c, h, _ => by simp at h
  | x :: r, 0, c, h, _ => by
    have : x = c := Option.some.inj h
    subst this
    rw [List.takeWhile_cons]
    cases hp : p x <;> simp
  | x :: r, k + 1, c, h, hk => by
    rw [List.takeWhile_cons] at hk ⊢
    cases hp : p x with
    | false => rw [hp] at hk; simp at hk
    | true =>
      rw [hp] at hk
      simp only [if_true, List.length_cons] at hk ⊢
      rw [tw_at (r := r) (k := k) (by simpa using h) (by omega)]
      omega
theorem name_ne {w} (h : Name w) : w ≠ [] := by obtain ⟨c, r, rfl, _⟩ := h; exact List.cons_ne_nil _ _
theorem let_dig {c} (h : c ∈ LET) : c ∉ DIG := (show ∀ c ∈ LET, c ∉ DIG by decide) c h
theorem let_ws {c} (h : c ∈ LET) : c ∈ WS := (show ∀ c ∈ LET, c ∈ WS by decide) c h
theorem dig_let {c} (h : c ∈ DIG) : c ∉ LET := (show ∀ c ∈ DIG, c ∉ LET by decide) c h
theorem mem_DIG {c : Nat} (h : 48 ≤ c) (h1 : c ≤ 57) : c ∈ DIG := by
  refine List.mem_map.mpr ⟨c - 48, List.mem_range.mpr (by omega), by omega⟩
theorem num_all (n : Nat) : ∀ x ∈ TL.numL n, x ∈ DIG := fun x hx => by
  have := TL.numL_digits n x hx
  exact mem_DIG this.1 this.2
theorem num_head (n : Nat) : ∃ c r, TL.numL n = c :: r ∧ c ∈ DIG := by
  cases e : TL.numL n with
  | nil => exact absurd e (TL.numL_ne n)
  | cons c r => exact ⟨c, r, rfl, num_all n c (by rw [e]; exact List.mem_cons_self ..)⟩
theorem num_zero : ∀ (n : Nat) {r : List Nat}, TL.numL n = 48 :: r → n = 0 := fun n => by
  induction n using Nat.strongRecOn with
  | _ n ih =>
    intro r h
    by_cases hn : n < 10
    · rw [TL.numL_lt hn] at h
      have := (List.cons.inj h).1
      omega
    · rw [TL.numL_step (by omega)] at h
      cases e : TL.numL (n / 10) with
      | nil => exact absurd e (TL.numL_ne _)
      | cons c t =>
        rw [e] at h
        have hc : c = 48 := (List.cons.inj h).1
        subst hc
        have := ih (n / 10) (by omega) e
        omega
/-- a symbol: a pair, or one sign that makes a pair only as glued tells -/
theorem sym_is : ∀ w ∈ SYMS, (w ∈ DBL ∧ w.length = 2) ∨ (w.length = 1 ∧ w.headD 0 ∈ SGL ∧ ∀ d ∈ DBL, d.headD 0 = w.headD 0 → d ∈ GLU) := by decide
theorem sym_head : ∀ w ∈ SYMS, w.headD 0 ∉ LET ∧ w.headD 0 ∉ DIG ∧ w.headD 0 ≠ 32 ∧ w.headD 0 ≠ 95 := by decide
theorem sym_ne : ∀ w ∈ SYMS, w ≠ [] := by decide
theorem two_one {w : List Nat} (h : w.length = 1) : ∃ a, w = [a] := List.length_eq_one_iff.mp h
theorem two_two {w : List Nat} (h : w.length = 2) : ∃ a b, w = [a, b] := by
  match w, h with
  | [a, b], _ => exact ⟨a, b, rfl⟩
theorem tok_sym {w r : List Nat} (hw : w ∈ SYMS) (hr : ∀ c, r.head? = some c → sep w c) : tokLen (w ++ r) = w.length ∧ (w ++ r).take 2 ≠ [45, 45] := by
  obtain ⟨h1, h2, _⟩ := sym_head w hw
  rcases sym_is w hw with ⟨hd, hl⟩ | ⟨hl, _, hg⟩
  · obtain ⟨a, b, rfl⟩ := two_two hl
    have e : ([a, b] ++ r).take 2 = [a, b] := by simp
    have ha : a ∉ LET := h1
    have hb : a ∉ DIG := h2
    refine ⟨?_, ?_⟩
    · show tokLen (a :: (b :: r)) = 2
      unfold tokLen
      simp only [ha, hb, if_false]
      rw [if_pos (by show (([a, b] ++ r).take 2) ∈ DBL; rw [e]; exact hd)]
    · rw [e]; intro he; rw [he] at hd; exact absurd hd (by decide)
  · obtain ⟨a, rfl⟩ := two_one hl
    have ha : a ∉ LET := h1
    have hb : a ∉ DIG := h2
    cases r with
    | nil =>
      refine ⟨?_, fun he => by cases he⟩
      show tokLen [a] = 1
      unfold tokLen
      simp only [ha, hb, if_false]
      rw [if_neg]
      intro hm
      have hm' : [a] ∈ DBL := hm
      exact absurd ((show ∀ d ∈ DBL, d.length = 2 by decide) _ hm') (by simp)
    | cons c r =>
      have hs : [a] ++ [c] ∉ GLU := by
        have := hr c rfl
        unfold sep at this
        simpa only [ha, hb, if_false] using this
      have e : ([a] ++ c :: r).take 2 = [a, c] := by simp
      refine ⟨?_, ?_⟩
      · show tokLen (a :: (c :: r)) = 1
        unfold tokLen
        simp only [ha, hb, if_false]
        rw [if_neg]
        intro hm
        have hm' : [a, c] ∈ DBL := by rw [← e]; exact hm
        exact hs (hg _ hm' rfl)
      · rw [e]; intro he
        have he' : [a] ++ [c] = [45, 45] := he
        exact hs (by rw [he']; decide)
theorem tok_good {k : Str} {w r : List Nat} (h : Good k w) (hr : ∀ c, r.head? = some c → sep w c) : tokLen (w ++ r) = w.length ∧ (w ++ r).take 2 ≠ [45, 45] := by
  have nm : ∀ {w}, Name w → (∀ c, r.head? = some c → sep w c) → tokLen (w ++ r) = w.length ∧ (w ++ r).take 2 ≠ [45, 45] := fun {w} hn hr => by
    obtain ⟨c, t, rfl, hc, ht, _⟩ := hn
    refine ⟨?_, ?_⟩
    · show tokLen (c :: (t ++ r)) = _
      unfold tokLen
      simp only [hc, if_true]
      rw [show c :: (t ++ r) = (c :: t) ++ r from rfl, tw_all]
      · intro x hx
        rcases List.mem_cons.mp hx with rfl | hx
        · exact decide_eq_true (let_ws hc)
        · exact decide_eq_true (ht x hx)
      · intro d hd
        have := hr d hd
        unfold sep at this
        simp only [hc, if_true] at this
        exact decide_eq_false this
    · intro e
      have e' : c :: (t ++ r).take 1 = [45, 45] := e
      have : c = 45 := (List.cons.inj e').1
      subst this
      exact absurd hc (by decide)
  cases h with
  | key _ hn => exact nm hn hr
  | name hn _ => exact nm hn hr
  | num n hn =>
    obtain ⟨c, t, he, hc⟩ := num_head n
    have hall := num_all n
    rw [he] at hall hr ⊢
    refine ⟨?_, ?_⟩
    · show tokLen (c :: (t ++ r)) = _
      unfold tokLen
      have hcl := dig_let hc
      simp only [hc, hcl, if_true, if_false]
      rw [show c :: (t ++ r) = (c :: t) ++ r from rfl, tw_all]
      · intro x hx; exact decide_eq_true (hall x hx)
      · intro d hd
        have := hr d hd
        unfold sep at this
        simp only [hc, hcl, if_true, if_false] at this
        exact decide_eq_false this
    · intro e
      have e' : c :: (t ++ r).take 1 = [45, 45] := e
      have : c = 45 := (List.cons.inj e').1
      subst this
      exact absurd hc (by decide)
  | sym hw => exact tok_sym hw hr
theorem good_head {k : Str} {w : List Nat} (h : Good k w) : ∃ c t, w = c :: t ∧ c ≠ 32 ∧ c ≠ 95 ∧ w.length ≤ 16 := by
  have nm : ∀ {w}, Name w → ∃ c t, w = c :: t ∧ c ≠ 32 ∧ c ≠ 95 ∧ w.length ≤ 16 := fun hn => by
    obtain ⟨c, t, rfl, hc, ht, hl⟩ := hn
    exact ⟨c, t, rfl, by rintro rfl; exact absurd hc (by decide), by rintro rfl; exact absurd hc (by decide), by simp; omega⟩
  cases h with
  | key _ hn => exact nm hn
  | name hn _ => exact nm hn
  | num n hn =>
    obtain ⟨c, t, he, hc⟩ := num_head n
    refine ⟨c, t, he, by rintro rfl; exact absurd hc (by decide), by rintro rfl; exact absurd hc (by decide), ?_⟩
    exact Nat.le_trans (TL.numL_len (k := 5) (by decide) (by omega)) (by decide)
  | sym hw =>
    obtain ⟨_, _, h3, h4⟩ := sym_head w hw
    have hl : w.length ≤ 16 := (show ∀ w ∈ SYMS, w.length ≤ 16 by decide) w hw
    cases w with
    | nil => exact absurd rfl (sym_ne _ hw)
    | cons c t => exact ⟨c, t, rfl, h3, h4, hl⟩
theorem sep_plain {k : Str} {w : List Nat} {c : Nat} (h : Good k w) (hc : c ∉ WS) (hg : w ++ [c] ∉ GLU) : sep w c := by
  have hd : c ∉ DIG := fun h => hc (List.mem_append.mpr (.inl (List.mem_append.mpr (.inr h))))
  unfold sep
  cases w with
  | nil => trivial
  | cons a t =>
    show if a ∈ LET then c ∉ WS else if a ∈ DIG then c ∉ DIG else (a :: t) ++ [c] ∉ GLU
    split
    · exact hc
    · split
      · exact hd
      · exact hg
theorem glu_ne {w : List Nat} {c : Nat} (h : ∀ d ∈ GLU, d.getLastD 0 ≠ c ∨ d.dropLast ≠ w) : w ++ [c] ∉ GLU := fun hm => by
  rcases h _ hm with h | h
  · exact h (by simp [List.getLastD_eq_getLast?])
  · exact h (by simp)
theorem sep_32 {k : Str} {w : List Nat} (h : Good k w) : sep w 32 := sep_plain h (by decide) (glu_ne fun d hd => .inl ((show ∀ d ∈ GLU, d.getLastD 0 ≠ 32 by decide) d hd))
theorem sep_45 {k : Str} {w : List Nat} (h : Good k w) (hn : w ≠ [45]) : sep w 45 := sep_plain h (by decide) (glu_ne fun d hd => by
  rcases (show ∀ d ∈ GLU, d.getLastD 0 ≠ 45 ∨ d.dropLast = [45] by decide) d hd with h | h
  · exact .inl h
  · exact .inr fun e => hn (by rw [← e, h]))
abbrev Tok' := Str × List Nat × Nat
inductive Lex : List Nat → Nat → List Tok' → Prop
  | nil (n : Nat) : Lex [] n []
  | rem (n : Nat) (r : List Nat) : Lex (45 :: 45 :: r) n []
  | sp {r : List Nat} {n : Nat} {ts : List Tok'} : Lex r (n + 1) ts → Lex (32 :: r) n ts
  | tok {k : Str} {w r : List Nat} {n : Nat} {ts : List Tok'} : Good k w → tokLen (w ++ r) = w.length → (w ++ r).take 2 ≠ [45, 45] → Lex r (n + w.length) ts → Lex (w ++ r) n ((k, w, n + 1) :: ts)
theorem lex_sp : ∀ {g : Nat} {r : List Nat} {n : Nat} {ts : List Tok'}, Lex r (n + g) ts → Lex (List.replicate g 32 ++ r) n ts
  | 0, _, _, _, h => h
  | g + 1, r, n, ts, h => by
    rw [List.replicate_succ, List.cons_append]
    exact .sp (lex_sp (by rw [show n + 1 + g = n + (g + 1) by omega]; exact h))
structure Pc where
  gap : Nat
  k : Str
  w : List Nat
def ptext : List Pc → List Nat
  | [] => []
  | p :: ps => List.replicate p.gap 32 ++ (p.w ++ ptext ps)
def ptoks : Nat → List Pc → List Tok'
  | _, [] => []
  | n, p :: ps => (p.k, p.w, n + p.gap + 1) :: ptoks (n + p.gap + p.w.length) ps
def lastw : List Nat → List Pc → List Nat
  | a, [] => a
  | _, p :: ps => lastw p.w ps
def okp : List Nat → List Pc → Prop
  | _, [] => True
  | a, p :: ps => Good p.k p.w ∧ (p.gap = 0 → ∀ c r, p.w = c :: r → sep a c) ∧ okp p.w ps
theorem ptext_snoc (p : Pc) : ∀ ps, ptext (ps ++ [p]) = ptext ps ++ List.replicate p.gap 32 ++ p.w
  | [] => by simp [ptext]
  | q :: ps => by simp [ptext, ptext_snoc p ps]
theorem ptoks_snoc (p : Pc) : ∀ (n : Nat) ps, ptoks n (ps ++ [p]) = ptoks n ps ++ [(p.k, p.w, n + (ptext ps).length + p.gap + 1)]
  | n, [] => by simp [ptoks, ptext]
  | n, q :: ps => by
    simp only [List.cons_append, ptoks, ptoks_snoc p _ ps, ptext, List.length_append, List.length_replicate]
    rw [show n + q.gap + q.w.length + (ptext ps).length + p.gap + 1 = n + (q.gap + (q.w.length + (ptext ps).length)) + p.gap + 1 by omega]
theorem lastw_snoc (p : Pc) : ∀ (a : List Nat) ps, lastw a (ps ++ [p]) = p.w
  | _, [] => rfl
  | _, q :: ps => lastw_snoc p q.w ps
theorem okp_snoc {p : Pc} (h : Good p.k p.w) : ∀ {a : List Nat} {ps : List Pc}, okp a ps → (p.gap = 0 → ∀ c r, p.w = c :: r → sep (lastw a ps) c) → okp a (ps ++ [p])
  | _, [], _, hs => ⟨h, hs, trivial⟩
  | _, q :: ps, ⟨h1, h2, h3⟩, hs => ⟨h1, h2, okp_snoc h h3 hs⟩
theorem ptoks_len : ∀ (n : Nat) ps, (ptoks n ps).length = ps.length
  | _, [] => rfl
  | _, p :: ps => by simp [ptoks, ptoks_len _ ps]
theorem last_good : ∀ {a : List Nat} {ps : List Pc}, okp a ps → (∃ k, Good k (lastw a ps)) ∨ (ps = [] ∧ lastw a ps = a)
  | _, [], _ => .inr ⟨rfl, rfl⟩
  | _, p :: ps, ⟨h1, _, h3⟩ => by
    rcases last_good h3 with h | ⟨rfl, h⟩
    · exact .inl h
    · exact .inl ⟨p.k, by show Good p.k (lastw p.w []); exact h1⟩
theorem lex_all : ∀ {ps : List Pc} {a : List Nat} {n : Nat} {tail : List Nat}, okp a ps → Lex tail (n + (ptext ps).length) [] → (∀ c, tail.head? = some c → sep (lastw a ps) c) → Lex (ptext ps ++ tail) n (ptoks n ps)
  | [], a, n, tail, _, ht, _ => ht
  | p :: ps, a, n, tail, ⟨h1, _, h3⟩, ht, hs => by
    have hh : ∀ c, (ptext ps ++ tail).head? = some c → sep p.w c := by
      intro c hc
      cases ps with
      | nil => exact hs c hc
      | cons q qs =>
        obtain ⟨g1, g2, _⟩ := h3
        obtain ⟨d, t, e, _⟩ := good_head g1
        cases hg : q.gap with
        | zero =>
          have : d = c := by
            simp only [ptext, hg, e, List.replicate_zero, List.nil_append, List.cons_append, List.head?_cons] at hc
            exact Option.some.inj hc
          subst this
          exact g2 hg _ _ e
        | succ g =>
          have : 32 = c := by
            simp only [ptext, hg, List.replicate_succ, List.cons_append, List.head?_cons] at hc
            exact Option.some.inj hc
          subst this
          exact sep_32 h1
    obtain ⟨e1, e2⟩ := tok_good h1 hh
    show Lex ((List.replicate p.gap 32 ++ (p.w ++ ptext ps)) ++ tail) n ((p.k, p.w, n + p.gap + 1) :: ptoks (n + p.gap + p.w.length) ps)
    rw [List.append_assoc, List.append_assoc]
    refine lex_sp ?_
    refine .tok h1 e1 e2 (lex_all (tail := tail) h3 ?_ hs)
    rw [show n + p.gap + p.w.length + (ptext ps).length = n + (ptext (p :: ps)).length by simp [ptext]; omega]
    exact ht
theorem inV_strs {z : List Nat} : ∀ {l : List (List Nat)}, inV (.str (S z)) (l.map fun x => V.str (S x)) = decide (z ∈ l)
  | [] => rfl
  | x :: l => by
    have ih := inV_strs (z := z) (l := l)
    unfold inV at ih ⊢
    rw [List.map_cons, List.any_cons, ih]
    show ((S x == S z) || decide (z ∈ l)) = _
    rw [S_beq_eq]
    by_cases h : x = z
    · subst h; simp
    · have hne : ¬ z = x := fun e => h e.symm
      simp [h, hne]
theorem flat_strs : ∀ {l : List (List Nat)}, (l.map fun x => V.str (S x)).all flatV = true
  | [] => rfl
  | x :: l => by rw [List.map_cons, List.all_cons, flat_strs]; rfl
theorem kw_name : ∀ w ∈ KWs, ∃ c r, w = c :: r ∧ c ∈ LET ∧ (∀ x ∈ r, x ∈ WS) ∧ r.length ≤ 7 ∧ 1 ≤ r.length := by
  have h : ∀ w ∈ KWs, w ≠ [] ∧ w.headD 0 ∈ LET ∧ (∀ x ∈ w.tail, x ∈ WS) ∧ w.tail.length ≤ 7 ∧ 1 ≤ w.tail.length := by decide
  intro w hw
  obtain ⟨h1, h2⟩ := h w hw
  cases w with
  | nil => exact absurd rfl h1
  | cons c r => exact ⟨c, r, rfl, h2⟩
end K00
set_option Elab.async false
set_option linter.all false
set_option maxRecDepth 100000
set_option maxHeartbeats 4000000
namespace K00
open PySem PySem.Spec PyProof.Rows L2 WL SX
local macro_rules | `(tactic| walk_at "lk") => `(tactic| first
  | exact upd_same
  | assumption
  | (rw [upd_ne (by assumption)]; first | exact upd_same | assumption | (rw [upd_ne (by assumption)]; first | exact upd_same | assumption | (rw [upd_ne (by assumption)]; first | exact upd_same | assumption))))
local macro_rules | `(tactic| walk_at "go1") => `(tactic| first
  | (with_reducible refine g_seq ?_)
  | (with_reducible refine g_asg ?_)
  | (with_reducible refine g_name ?_)
  | (with_reducible refine g_sub ?_)
  | ((with_reducible refine' g_var ?gv ?_); (case gv => exact rfl))
  | (with_reducible refine g_c ?_)
  | (with_reducible refine g_op ?_)
  | (with_reducible refine g_un ?_)
  | (with_reducible refine g_I0 ?_)
  | ((with_reducible refine g_I ?gc ?_); (case gc => first | assumption | decide | (show (0 : Int) < _; omega) | exact Or.inr ⟨by omega, by omega⟩ | exact Or.inl ⟨by omega, by omega⟩ | exact ⟨by omega, by omega⟩))
  | (with_reducible refine iteT ?_)
  | (with_reducible refine iteF ?_)
  | (with_reducible refine iteNT ?_)
  | (with_reducible refine iteNF ?_)
  | (with_reducible refine g_andV ?_)
  | (with_reducible refine g_orV ?_)
  | ((with_reducible refine' g_lenS (by assumption) ?_))
  | ((with_reducible refine' g_lenS (SqL.of (by walk_at "lk")) ?_))
  | (with_reducible refine g_U ?_)
  | ((with_reducible refine g_eq ?gs ?_); (case gs => rfl))
  | ((with_reducible refine g_ne ?gs ?_); (case gs => rfl))
  | (with_reducible refine g_drop ?_)
  | (with_reducible refine g_ret ?_)
  | (with_reducible refine g_next ?_)
  | (with_reducible refine g_ifS ?_)
  | (with_reducible refine g_ifE ?_)
  | (with_reducible refine g_test ?_)
  | (with_reducible refine g_tb ?_)
  | (with_reducible refine g_bl ?_)
  | (with_reducible refine g_not ?_)
  | (with_reducible refine g_and ?_)
  | (with_reducible refine g_or ?_)
  | (with_reducible refine g_nil ?_)
  | (with_reducible refine g_cons ?_)
  | (with_reducible refine g_cb ?_)
  | (with_reducible refine g_call ?_)
  | (with_reducible refine g_int ?_)
  | (with_reducible refine g_two ?_)
  | ((with_reducible refine g_lenStr ?gz ?_); (case gz => first | assumption | exact sz_le (by omega)))
  | (with_reducible refine g_m1 ?_)
  | (with_reducible refine g_isS ?_)
  | (with_reducible refine g_nn ?_)
  | (with_reducible refine g_yes ?_)
  | (with_reducible refine g_for ?_)
  | (with_reducible refine g_ckw ?_)
  | (with_reducible refine g_iZip ?_)
  | (with_reducible refine g_lc ?_)
  | (with_reducible refine g_lc2 ?_)
  | (with_reducible refine g_iList ?_)
  | (with_reducible refine g_iRng1 ?_)
  | (with_reducible refine g_iRng2 ?_)
  | (with_reducible refine g_sl ?_)
  | (with_reducible refine g_noPart ?_)
  | (with_reducible refine g_part ?_)
  | (with_reducible refine g_ex1 ?_)
  | (with_reducible refine g_bm ?_)
  | ((with_reducible refine' g_tyL (by walk_at "lk") ?_))
  | ((with_reducible refine' g_aug ?gv ?_); (case gv => exact rfl))
  | (with_reducible refine g_ipI ?_)
  | (with_reducible refine g_turn ?_)
  | (with_reducible refine g_brk ?_)
  | (with_reducible refine g_cont ?_)
  | (with_reducible refine g_sign ?_)
  | (with_reducible refine g_lst ?_)
  | (with_reducible refine g_tup ?_)
  | ((with_reducible refine' g_ixL (by assumption) ?ga ?_); (case ga => assumption))
  | ((with_reducible refine' g_ixL (SqL.of (by walk_at "lk")) ?ga ?_); (case ga => first | exact rfl | assumption))
  | ((with_reducible refine' g_ixT (SqT.of (by walk_at "lk")) ?ga ?_); (case ga => first | exact rfl | assumption))
  | ((with_reducible refine' g_lenT (SqT.of (by walk_at "lk")) ?_))
  | ((with_reducible refine' g_isiS ?ga ?_); (case ga => decide +kernel))
  | ((with_reducible refine' g_isiI ?ga ?_); (case ga => decide +kernel))
  | ((with_reducible refine' g_setL2 ?ga ?gb ?_); (case ga => exact rfl); (case gb => exact rfl))
  | ((with_reducible refine' g_setL (by walk_at "lk") ?ga ?gb ?_); (case ga => exact rfl); (case gb => exact rfl)))
local macro_rules | `(tactic| walk_at "go") => `(tactic| ((repeat walk_at "go1"); try dsimp only [List.set, List.cons_append, List.nil_append]))
def spRun : Sp := fun vs H Q _ => ∃ (l g : List Nat) (a : Nat), vs = [.str (S l), .int a, .str (S g)] ∧ a ≤ l.length ∧ l.length ≤ 1000 ∧ Q (.int ((a + ((l.drop a).takeWhile fun x => decide (x ∈ g)).length : Nat))) H
def spTokEnd : Sp := fun vs H Q _ => ∃ (l : List Nat) (a : Nat), vs = [.str (S l), .int a] ∧ a < l.length ∧ l.length ≤ 1000 ∧ Q (.int ((a + tokLen (l.drop a) : Nat))) H
def spIsNum : Sp := fun vs H Q _ => ∃ n : Nat, vs = [.str (S (TL.numL n))] ∧ n ≤ 65535 ∧ Q (.bl true) H
def spKind : Sp := fun vs H Q _ => ∃ (k : Str) (w : List Nat), vs = [.str (S w)] ∧ Good k w ∧ Q (.str k) H
theorem lit_let : Str.ofString "abcdefghijklmnopqrstuvwxyz" = S LET := by decide +kernel
theorem lit_dig : Str.ofString "0123456789" = S DIG := by decide +kernel
theorem lit_ws : Str.ofString "abcdefghijklmnopqrstuvwxyz0123456789_" = S WS := by decide +kernel
theorem lit_sgl : Str.ofString "()[]{},:.=<+-*&|^~#@" = S SGL := by decide +kernel
theorem cut2 (l : List Nat) (a : Nat) : cutS (S l) (some (a : Int)) (some ((a : Int) + 2)) = S ((l.drop a).take 2) := by
  have e := cutS_nat l a (a + 2)
  rw [show a + 2 - a = 2 by omega] at e
  exact e
def dblV : List V := [V.str (Str.ofString "<="), V.str (Str.ofString "=="), V.str (Str.ofString "!="), V.str (Str.ofString ">="), V.str (Str.ofString "<<"), V.str (Str.ofString ">>")]
theorem dbl_lit : dblV = DBL.map fun x => V.str (S x) := by
  have e : [Str.ofString "<=", Str.ofString "==", Str.ofString "!=", Str.ofString ">=", Str.ofString "<<", Str.ofString ">>"] = DBL.map S := by decide +kernel
  have e2 := congrArg (List.map V.str) e
  rw [List.map_map] at e2
  exact e2
def kwVs : List V := [V.str (Str.ofString "module"), V.str (Str.ofString "end"), V.str (Str.ofString "in"), V.str (Str.ofString "out"), V.str (Str.ofString "wire"), V.str (Str.ofString "reg"), V.str (Str.ofString "mem"), V.str (Str.ofString "use"), V.str (Str.ofString "as"), V.str (Str.ofString "each"), V.str (Str.ofString "from"), V.str (Str.ofString "to"), V.str (Str.ofString "when"), V.str (Str.ofString "always"), V.str (Str.ofString "if"), V.str (Str.ofString "then"), V.str (Str.ofString "else"), V.str (Str.ofString "within"), V.str (Str.ofString "all"), V.str (Str.ofString "any"), V.str (Str.ofString "odd"), V.str (Str.ofString "promise")]
theorem kw_lit : kwVs = KWs.map fun x => V.str (S x) := by
  have e : ["module", "end", "in", "out", "wire", "reg", "mem", "use", "as", "each", "from", "to", "when", "always", "if", "then", "else", "within", "all", "any", "odd", "promise"].map Str.ofString = KWs.map S := by decide +kernel
  have e2 := congrArg (List.map V.str) e
  rw [List.map_map, List.map_map] at e2
  exact e2
theorem g_inT {H : Hp} {Q : VK} {K : PySem.W.Frag} {p : Addr} {w : List Nat} {xs : List V} {l : List (List Nat)} (h : SqT K H p xs) (e : xs = l.map fun x => V.str (S x)) (q : Q (.bl (decide (w ∈ l))) H) : rIn K false (.str (S w)) (.ref p) H Q := by
  subst e
  refine ⟨p, _, rfl, .inr h, rfl, flat_strs, ?_⟩
  rw [inV_strs]; exact q
theorem g_inL {H : Hp} {Q : VK} {K : PySem.W.Frag} {p : Addr} {w : List Nat} {l : List (List Nat)} (h : SqL K H p (l.map fun x => V.str (S x))) (q : Q (.bl (decide (w ∈ l))) H) : rIn K false (.str (S w)) (.ref p) H Q := by
  refine ⟨p, _, rfl, .inl h, rfl, flat_strs, ?_⟩
  rw [inV_strs]; exact q
section
variable {P : Program} {w : World} {K : PySem.W.Frag} {mg : Str → Option Value} {base : Heap} {dA : Nat → Addr}
theorem ok__end_of_run (T : Txt K mg dA)  {f : Addr} {fd : FuncData} (F : Fun K "_end_of_run" "_end_of_run" s__end_of_run f fd) : FnOk P w K mg base CX0 1 f fd ["text", "at", "signs"] spRun := by
  refine F.ok sc__end_of_run (fun vs H Q E h => ?_) (fun cdv A outer s H vs Q E hr h => ?_)
  · obtain ⟨l, g, a, rfl, _⟩ := h
    rfl
  obtain ⟨l, g, a, rfl, ha, hl, q⟩ := h
  refine ⟨_, (pss_cons (ps_while PassesOwn.never (PW.pt (pw_and (pt_cmpR op_lt (pv 1) (pe_callB call_len_str (by rfl) T.b_len (by decide +kernel) (pa_cons (pv 0) pa_nil)) (nomark _)) (pw_and1 (pt_cmpR op_in_sign (pe_ix ix_str (pv 0) (pv 1) (fun _ _ => rfl)) (pv 2) rfl)))) (pss_one (ps_aug (i := 1) sc__end_of_run.nd rfl (.inl rfl) pe_int ip_add)))
      (pss_one (ps_ret (pv 1)))), ?_⟩
  rw [show (L2.start ["text", "at", "signs"] [.str (S l), .int a, .str (S g)] : L2.St) = [some (.str (S l)), some (.int a), some (.str (S g))] from rfl]
  try simp only [WL.cxK]
  generalize hm : ((l.drop a).takeWhile fun x => decide (x ∈ g)).length = m at q
  have hml : a + m ≤ l.length := by
    have h1 : ((l.drop a).takeWhile fun x => decide (x ∈ g)).length ≤ (l.drop a).length := List.Sublist.length_le (List.takeWhile_sublist _)
    rw [hm, List.length_drop] at h1; omega
  have hsz : (S l).length ≤ sizeLine := by rw [S_len]; exact sz_le (by omega)
  walk_at "go"
  refine f_while (fun μ σ' H' => ∃ k : Nat, σ' = [some (.str (S l)), some (.int ((a + k : Nat) : Int)), some (.str (S g))] ∧ k ≤ m ∧ μ = m - k ∧ H' = H) m ⟨0, rfl, by omega, by omega, rfl⟩ ?_
  · rintro μ σ' H' ⟨k, rfl, hk, rfl, rfl⟩
    walk_at "go"
    rw [S_len]
    refine g_ite (fun e => ?_) (fun e => ?_)
    · have hlt : a + k < l.length := by omega
      have hc : (S l).cps.toList[a + k]? = some l[a + k] := List.getElem?_eq_getElem hlt
      have htw := tw_at (p := fun x => decide (x ∈ g)) (r := l.drop a) (k := k) (c := l[a + k]) (by rw [List.getElem?_drop]; exact hc) (by omega)
      rw [hm] at htw
      walk_at "go"
      refine g_ixS hsz (at_z (j := a + k) rfl hc) ?_
      walk_at "go"
      refine g_ite (fun e2 => ?_) (fun e2 => ?_)
      · have : k < m := htw.1 (decide_eq_true e2)
        walk_at "go"
        exact ⟨m - (k + 1), by omega, k + 1, by rw [show ((a + k : Nat) : Int) + 1 = ((a + (k + 1) : Nat) : Int) by omega], by omega, rfl, rfl⟩
      · have : ¬ k < m := fun h => e2 (of_decide_eq_true (htw.2 h))
        walk_at "go"
        rw [show k = m by omega]; exact q
    · walk_at "go"
      rw [show k = m by omega]; exact q
theorem ok__end_of_token (T : Txt K mg dA) (c__end_of_run : C8.Cal P w K mg base 1 "_end_of_run" spRun []) {f : Addr} {fd : FuncData} (F : Fun K "_end_of_token" "_end_of_token" s__end_of_token f fd) : FnOk P w K mg base CX0 2 f fd ["text", "at"] spTokEnd := by
  refine F.ok sc__end_of_token (fun vs H Q E h => ?_) (fun cdv A outer s H vs Q E hr h => ?_)
  · obtain ⟨l, a, rfl, _⟩ := h
    rfl
  obtain ⟨l, a, rfl, ha, hl, q⟩ := h
  refine ⟨_, (pss_cons (ps_if (pt_cmpR op_in_sign (pe_ix ix_str (pv 0) (pv 1) (fun _ _ => rfl)) (C8.pe_gc (by rfl) T.g_LETTERS) rfl) (pss_one (ps_ret (C8.pe_c c__end_of_run hr (by decide) (by rfl) (pa_cons (pv 0) (pa_cons (pv 1) (pa_cons (C8.pe_gc (by rfl) T.g_WORD_SIGNS) pa_nil)))))) pss_nil)
      (pss_cons (ps_if (pt_cmpR op_in_sign (pe_ix ix_str (pv 0) (pv 1) (fun _ _ => rfl)) (C8.pe_gc (by rfl) T.g_DIGITS) rfl) (pss_one (ps_ret (C8.pe_c c__end_of_run hr (by decide) (by rfl) (pa_cons (pv 0) (pa_cons (pv 1) (pa_cons (C8.pe_gc (by rfl) T.g_DIGITS) pa_nil)))))) pss_nil)
      (pss_cons (ps_if (pt_cmpR (kop_in_seq K) (pe_slice sl_str (pv 0) (po_some (pv 1)) (po_some (pe_op op_add (pv 1) pe_int))) (C8.pe_gc (by rfl) T.g_DOUBLE_SYMBOLS) rfl) (pss_one (ps_ret (pe_op op_add (pv 1) pe_int))) pss_nil)
      (pss_one (ps_ret (pe_op op_add (pv 1) pe_int)))))), ?_⟩
  rw [show (L2.start ["text", "at"] [.str (S l), .int a] : L2.St) = [some (.str (S l)), some (.int a)] from rfl]
  try simp only [WL.cxK]
  have hsz : (S l).length ≤ sizeLine := by rw [S_len]; exact sz_le (by omega)
  have hc : (S l).cps.toList[a]? = some l[a] := List.getElem?_eq_getElem ha
  have hd : l.drop a = l[a] :: l.drop (a + 1) := List.drop_eq_getElem_cons ha
  generalize l[a] = c at hc hd
  rw [hd] at q
  unfold tokLen at q
  walk_at "go"
  refine g_ixS hsz (at_z (j := a) rfl hc) ?_
  walk_at "go"
  rw [lit_let]
  refine g_ite (fun e => ?_) (fun e => ?_)
  · have e : c ∈ LET := e
    walk_at "go"
    refine ⟨l, WS, a, rfl, by omega, hl, ?_⟩
    simp only [e, if_true] at q
    rw [hd]; exact q
  have e : c ∉ LET := e
  walk_at "go"
  refine g_ixS hsz (at_z (j := a) rfl hc) ?_
  walk_at "go"
  rw [lit_dig]
  refine g_ite (fun e2 => ?_) (fun e2 => ?_)
  · have e2 : c ∈ DIG := e2
    walk_at "go"
    refine ⟨l, DIG, a, rfl, by omega, hl, ?_⟩
    simp only [e, e2, if_true, if_false] at q
    rw [hd]; exact q
  have e2 : c ∉ DIG := e2
  walk_at "go"
  refine g_slS hsz (cut2 l a) ?_
  walk_at "go"
  refine g_inT (T.t_DOUBLE_SYMBOLS _) dbl_lit ?_
  rw [hd]
  walk_at "go"
  refine g_ite (fun e3 => ?_) (fun e3 => ?_)
  · walk_at "go"
    simp only [e, e2, e3, if_true, if_false] at q
    exact q
  · walk_at "go"
    simp only [e, e2, e3, if_false] at q
    exact q
theorem ok__is_number (T : Txt K mg dA)  {f : Addr} {fd : FuncData} (F : Fun K "_is_number" "_is_number" s__is_number f fd) : FnOk P w K mg base CX0 1 f fd ["digits"] spIsNum := by
  refine F.ok sc__is_number (fun vs H Q E h => ?_) (fun cdv A outer s H vs Q E hr h => ?_)
  · obtain ⟨n, rfl, _⟩ := h
    rfl
  obtain ⟨n, rfl, hn, q⟩ := h
  refine ⟨_, (pss_cons (ps_if (pt_cmpR op_eq (pe_ix ix_str (pv 0) pe_int (fun _ _ => rfl)) pe_str (nomark _)) (pss_one (ps_ret (pe_cmpR op_eq (pv 0) pe_str (nomark _)))) pss_nil)
      (pss_one (ps_ret (pe_and (pe_cmpR op_le (pe_callB call_len_str (by rfl) T.b_len (by decide +kernel) (pa_cons (pv 0) pa_nil)) (C8.pe_gc (by rfl) T.g_LONGEST_NUMBER) (nomark _)) (pe_one (pe_cmpR op_le (pe_callTy call_int_str (by rfl) T.b_int (by decide +kernel) (pa_cons (pv 0) pa_nil)) (C8.pe_gc (by rfl) T.g_GREATEST_NUMBER) (nomark _))))))), ?_⟩
  rw [show (L2.start ["digits"] [.str (S (TL.numL n))] : L2.St) = [some (.str (S (TL.numL n)))] from rfl]
  try simp only [WL.cxK]
  have hl5 : (TL.numL n).length ≤ 5 := TL.numL_len (k := 5) (by decide) (by omega)
  have hsz : (S (TL.numL n)).length ≤ sizeLine := by rw [S_len]; exact sz_le (by omega)
  obtain ⟨c, t, he, _⟩ := num_head n
  have hc : (S (TL.numL n)).cps.toList[0]? = some c := by show (TL.numL n)[0]? = _; rw [he]; rfl
  walk_at "go"
  refine g_ixS hsz (at_z (j := 0) rfl hc) ?_
  walk_at "go"
  refine g_ite (fun e => ?_) (fun e => ?_)
  · have h48 : c = 48 := by
      have e1 : S [c] = S [48] := V.str.inj e
      exact (List.cons.inj (S_inj e1)).1
    subst h48
    have := num_zero n he
    subst this
    walk_at "go"
    rw [decide_eq_true (show V.str (S (TL.numL 0)) = V.str (Str.ofString "0") by rw [TL.numL_lt (by decide)]; rfl)]
    exact q
  · walk_at "go"
    rw [S_len, decide_eq_true (show ((TL.numL n).length : Int) ≤ 5 by omega)]
    walk_at "go"
    refine ⟨_, n, rfl, by rw [← num_S]; exact TL.int_num (by omega), by rw [S_len]; omega, ?_⟩
    walk_at "go"
    rw [decide_eq_true (show (n : Int) ≤ 65535 by omega)]
    exact q
theorem ok__kind_of (T : Txt K mg dA) (c__is_number : C8.Cal P w K mg base 1 "_is_number" spIsNum []) {f : Addr} {fd : FuncData} (F : Fun K "_kind_of" "_kind_of" s__kind_of f fd) : FnOk P w K mg base CX0 2 f fd ["word"] spKind := by
  refine F.ok sc__kind_of (fun vs H Q E h => ?_) (fun cdv A outer s H vs Q E hr h => ?_)
  · obtain ⟨k, w, rfl, _⟩ := h
    rfl
  obtain ⟨k, w, rfl, hg, q⟩ := h
  refine ⟨_, (pss_cons (ps_if (pt_cmpR op_in_sign (pe_ix ix_str (pv 0) pe_int (fun _ _ => rfl)) (C8.pe_gc (by rfl) T.g_LETTERS) rfl) (pss_cons (ps_if (pt_cmpR op_gt (pe_callB call_len_str (by rfl) T.b_len (by decide +kernel) (pa_cons (pv 0) pa_nil)) (C8.pe_gc (by rfl) T.g_LONGEST_NAME) (nomark _)) (pss_one (ps_ret pe_non)) pss_nil)
      (pss_one (ps_ret (pe_ifExp (pt_cmpR (kop_in_seq K) (pv 0) (C8.pe_gc (by rfl) T.g_KEYWORDS) rfl) pe_str pe_str)))) pss_nil)
      (pss_cons (ps_if (pt_cmpR op_in_sign (pe_ix ix_str (pv 0) pe_int (fun _ _ => rfl)) (C8.pe_gc (by rfl) T.g_DIGITS) rfl) (pss_one (ps_ret (pe_ifExp (pt_val (C8.pe_c c__is_number hr (by decide) (by rfl) (pa_cons (pv 0) pa_nil))) pe_str pe_non))) pss_nil)
      (pss_cons (ps_if (PW.pt (pw_or (pt_cmpR (kop_in_seq K) (pv 0) (C8.pe_gc (by rfl) T.g_DOUBLE_SYMBOLS) rfl) (pw_or1 (pt_cmpR op_in_sign (pv 0) (C8.pe_gc (by rfl) T.g_SINGLE_SYMBOLS) rfl)))) (pss_one (ps_ret pe_str)) pss_nil)
      (pss_one (ps_ret pe_non))))), ?_⟩
  rw [show (L2.start ["word"] [.str (S w)] : L2.St) = [some (.str (S w))] from rfl]
  try simp only [WL.cxK]
  obtain ⟨c, t, he, _, _, hl16⟩ := good_head hg
  have hsz : (S w).length ≤ sizeLine := by rw [S_len]; exact sz_le (by omega)
  have hc : (S w).cps.toList[0]? = some c := by show w[0]? = _; rw [he]; rfl
  walk_at "go"
  refine g_ixS hsz (at_z (j := 0) rfl hc) ?_
  walk_at "go"
  rw [lit_let]
  refine g_ite (fun e => ?_) (fun e => ?_)
  · have e : c ∈ LET := e
    walk_at "go"
    rw [S_len, decide_eq_false (show ¬ (16 : Int) < (w.length : Int) by omega)]
    walk_at "go"
    refine g_inT (T.t_KEYWORDS _) kw_lit ?_
    walk_at "go"
    cases hg with
    | key h1 h2 =>
      rw [decide_eq_true h1]
      walk_at "go"
      exact q
    | name h1 h2 =>
      rw [decide_eq_false h2]
      walk_at "go"
      exact q
    | num n hn =>
      obtain ⟨c', t', he', hd⟩ := num_head n
      rw [he] at he'
      exact absurd (by rw [(List.cons.inj he').1]; exact hd) (let_dig e)
    | sym hw =>
      have := (sym_head w hw).1
      rw [he] at this
      exact absurd e this
  have e : c ∉ LET := e
  walk_at "go"
  refine g_ixS hsz (at_z (j := 0) rfl hc) ?_
  walk_at "go"
  rw [lit_dig]
  refine g_ite (fun e2 => ?_) (fun e2 => ?_)
  · have e2 : c ∈ DIG := e2
    walk_at "go"
    cases hg with
    | key h1 h2 => obtain ⟨c', t', he', hd, _⟩ := h2; rw [he] at he'; exact absurd (by rw [(List.cons.inj he').1]; exact hd) e
    | name h2 h1 => obtain ⟨c', t', he', hd, _⟩ := h2; rw [he] at he'; exact absurd (by rw [(List.cons.inj he').1]; exact hd) e
    | num n hn =>
      refine ⟨n, rfl, hn, ?_⟩
      walk_at "go"
      exact q
    | sym hw =>
      have := (sym_head w hw).2.1
      rw [he] at this
      exact absurd e2 this
  have e2 : c ∉ DIG := e2
  cases hg with
  | key h1 h2 => obtain ⟨c', t', he', hd, _⟩ := h2; rw [he] at he'; exact absurd (by rw [(List.cons.inj he').1]; exact hd) e
  | name h2 h1 => obtain ⟨c', t', he', hd, _⟩ := h2; rw [he] at he'; exact absurd (by rw [(List.cons.inj he').1]; exact hd) e
  | num n hn =>
    obtain ⟨c', t', he', hd⟩ := num_head n
    rw [he] at he'
    exact absurd (by rw [(List.cons.inj he').1]; exact hd) e2
  | sym hw =>
    walk_at "go"
    refine g_inT (T.t_DOUBLE_SYMBOLS _) dbl_lit ?_
    walk_at "go"
    refine g_ite (fun e3 => ?_) (fun e3 => ?_)
    · walk_at "go"
      exact q
    · rcases sym_is w hw with ⟨hd, _⟩ | ⟨h1, h2, _⟩
      · exact absurd hd e3
      obtain ⟨a, rfl⟩ := two_one h1
      walk_at "go"
      rw [lit_sgl, decide_eq_true (show a ∈ SGL from h2)]
      walk_at "go"
      exact q
end
end K00
set_option Elab.async false
set_option linter.all false
set_option maxRecDepth 100000
set_option maxHeartbeats 4000000
namespace K00
open PySem PySem.Spec PyProof.Rows L2 WL SX
local macro_rules | `(tactic| walk_at "lk") => `(tactic| first
  | exact upd_same
  | assumption
  | (rw [upd_ne (by assumption)]; first | exact upd_same | assumption | (rw [upd_ne (by assumption)]; first | exact upd_same | assumption | (rw [upd_ne (by assumption)]; first | exact upd_same | assumption))))
local macro_rules | `(tactic| walk_at "go1") => `(tactic| first
  | (with_reducible refine g_seq ?_)
  | (with_reducible refine g_asg ?_)
  | (with_reducible refine g_name ?_)
  | (with_reducible refine g_sub ?_)
  | ((with_reducible refine' g_var ?gv ?_); (case gv => exact rfl))
  | (with_reducible refine g_c ?_)
  | (with_reducible refine g_op ?_)
  | (with_reducible refine g_un ?_)
  | (with_reducible refine g_I0 ?_)
  | ((with_reducible refine g_I ?gc ?_); (case gc => first | assumption | decide | (show (0 : Int) < _; omega) | exact Or.inr ⟨by omega, by omega⟩ | exact Or.inl ⟨by omega, by omega⟩ | exact ⟨by omega, by omega⟩))
  | (with_reducible refine iteT ?_)
  | (with_reducible refine iteF ?_)
  | (with_reducible refine iteNT ?_)
  | (with_reducible refine iteNF ?_)
  | (with_reducible refine g_andV ?_)
  | (with_reducible refine g_orV ?_)
  | ((with_reducible refine' g_lenS (by assumption) ?_))
  | ((with_reducible refine' g_lenS (SqL.of (by walk_at "lk")) ?_))
  | (with_reducible refine g_U ?_)
  | ((with_reducible refine g_eq ?gs ?_); (case gs => rfl))
  | ((with_reducible refine g_ne ?gs ?_); (case gs => rfl))
  | (with_reducible refine g_drop ?_)
  | (with_reducible refine g_ret ?_)
  | (with_reducible refine g_next ?_)
  | (with_reducible refine g_ifS ?_)
  | (with_reducible refine g_ifE ?_)
  | (with_reducible refine g_test ?_)
  | (with_reducible refine g_tb ?_)
  | (with_reducible refine g_bl ?_)
  | (with_reducible refine g_not ?_)
  | (with_reducible refine g_and ?_)
  | (with_reducible refine g_or ?_)
  | (with_reducible refine g_nil ?_)
  | (with_reducible refine g_cons ?_)
  | (with_reducible refine g_cb ?_)
  | (with_reducible refine g_call ?_)
  | (with_reducible refine g_int ?_)
  | (with_reducible refine g_two ?_)
  | ((with_reducible refine g_lenStr ?gz ?_); (case gz => first | assumption | exact sz_le (by omega)))
  | (with_reducible refine g_m1 ?_)
  | (with_reducible refine g_isS ?_)
  | (with_reducible refine g_nn ?_)
  | (with_reducible refine g_yes ?_)
  | (with_reducible refine g_for ?_)
  | (with_reducible refine g_ckw ?_)
  | (with_reducible refine g_iZip ?_)
  | (with_reducible refine g_lc ?_)
  | (with_reducible refine g_lc2 ?_)
  | (with_reducible refine g_iList ?_)
  | (with_reducible refine g_iRng1 ?_)
  | (with_reducible refine g_iRng2 ?_)
  | (with_reducible refine g_sl ?_)
  | (with_reducible refine g_noPart ?_)
  | (with_reducible refine g_part ?_)
  | (with_reducible refine g_ex1 ?_)
  | (with_reducible refine g_bm ?_)
  | ((with_reducible refine' g_tyL (by walk_at "lk") ?_))
  | ((with_reducible refine' g_aug ?gv ?_); (case gv => exact rfl))
  | (with_reducible refine g_ipI ?_)
  | (with_reducible refine g_turn ?_)
  | (with_reducible refine g_brk ?_)
  | (with_reducible refine g_cont ?_)
  | (with_reducible refine g_sign ?_)
  | (with_reducible refine g_lst ?_)
  | (with_reducible refine g_tup ?_)
  | ((with_reducible refine' g_ixL (by assumption) ?ga ?_); (case ga => assumption))
  | ((with_reducible refine' g_ixL (SqL.of (by walk_at "lk")) ?ga ?_); (case ga => first | exact rfl | assumption))
  | ((with_reducible refine' g_ixT (SqT.of (by walk_at "lk")) ?ga ?_); (case ga => first | exact rfl | assumption))
  | ((with_reducible refine' g_lenT (SqT.of (by walk_at "lk")) ?_))
  | ((with_reducible refine' g_isiS ?ga ?_); (case ga => decide +kernel))
  | ((with_reducible refine' g_isiI ?ga ?_); (case ga => decide +kernel))
  | ((with_reducible refine' g_setL2 ?ga ?gb ?_); (case ga => exact rfl); (case gb => exact rfl))
  | ((with_reducible refine' g_setL (by walk_at "lk") ?ga ?gb ?_); (case ga => exact rfl); (case gb => exact rfl)))
local macro_rules | `(tactic| walk_at "go") => `(tactic| ((repeat walk_at "go1"); try dsimp only [List.set, List.cons_append, List.nil_append]))
structure Bg (x1 x2 x3 x4 : Int) (k : Nat) : Prop where
  a : 0 ≤ x1
  b : 0 ≤ x2
  c : 0 ≤ x3
  c' : x3 < 2147483647
  d : 0 ≤ x4
  d' : x4 ≤ k
def Bag (c b : Addr) (k : Nat) (H : Hp) : Prop := ∃ (cells : List Int) (x1 x2 x3 x4 : Int), H b = some (.lst [.ref c, .int x1, .int x2, .int x3, .int x4]) ∧ H c = some (.lst (cells.map V.int)) ∧ Bg x1 x2 x3 x4 k
theorem Bag.put {c b p : Addr} {k : Nat} {H : Hp} {o : HO} (h : Bag c b k H) (nb : p ≠ b) (nc : p ≠ c) : Bag c b k (upd H p o) := by
  obtain ⟨cells, x1, x2, x3, x4, hb, hc, h1⟩ := h
  exact ⟨cells, x1, x2, x3, x4, by rw [upd_ne nb.symm]; exact hb, by rw [upd_ne nc.symm]; exact hc, h1⟩
theorem Bag.nb {c b p : Addr} {k : Nat} {H : Hp} (h : Bag c b k H) (np : H p = none) : p ≠ b ∧ p ≠ c := by
  obtain ⟨cells, x1, x2, x3, x4, hb, hc, h1⟩ := h
  exact ⟨(ne_of_none hb np).symm, (ne_of_none hc np).symm⟩
theorem Bag.new {c b p : Addr} {k : Nat} {H : Hp} {o : HO} (h : Bag c b k H) (np : H p = none) : Bag c b k (upd H p o) := h.put (h.nb np).1 (h.nb np).2
theorem Bag.same {c b : Addr} {k : Nat} {H H' : Hp} (h : Bag c b k H) (s : Same H H') : Bag c b k H' := by
  obtain ⟨cells, x1, x2, x3, x4, hb, hc, h1⟩ := h
  exact ⟨cells, x1, x2, x3, x4, s _ _ hb, s _ _ hc, h1⟩
theorem Bag.mono {c b : Addr} {k j : Nat} {H : Hp} (h : Bag c b k H) (hk : k ≤ j) : Bag c b j H := by
  obtain ⟨cells, x1, x2, x3, x4, hb, hc, ⟨a1, a2, a3, a4, a5, a6⟩⟩ := h
  exact ⟨cells, x1, x2, x3, x4, hb, hc, ⟨a1, a2, a3, a4, a5, by omega⟩⟩
def spBag (K : PySem.W.Frag) : Sp := fun vs H Q _ => ∃ (a : Addr) (ns : List Int), vs = [.ref a] ∧ SqL K H a (ns.map V.int) ∧ ns.length ≤ 63 ∧ ∀ c b H', H b = none → H c = none → Same H H' → Bag c b 0 H' → Q (.ref b) H'
def spDraw : Sp := fun vs H Q _ => ∃ (b c : Addr) (k : Nat) (m : Int), vs = [.ref b, .int m] ∧ Bag c b k H ∧ k ≤ 100000 ∧ 1 ≤ m ∧ m ≤ 1000000 ∧ ∀ d H', 0 ≤ d → d < m → Kp b H H' → Bag c b (k + 1) H' → Q (.int d) H'
theorem g_draw {b c : Addr} {k : Nat} {m : Int} {H : Hp} {Q : VK} {E : XK} (hB : Bag c b k H) (hk : k ≤ 100000) (h1 : 1 ≤ m) (h2 : m ≤ 1000000) (q : ∀ d H', 0 ≤ d → d < m → Kp b H H' → Bag c b (k + 1) H' → Q (.int d) H') : spDraw [.ref b, .int m] H Q E := ⟨b, c, k, m, rfl, hB, hk, h1, h2, q⟩
section
variable {P : Program} {w : World} {K : PySem.W.Frag} {mg : Str → Option Value} {base : Heap} {dA : Nat → Addr}
theorem ok__law_bag (T : Txt K mg dA)  {f : Addr} {fd : FuncData} (F : Fun K "_law_bag" "_law_bag" s__law_bag f fd) : FnOk P w K mg base CX0 1 f fd ["script"] (spBag K) := by
  refine F.ok sc__law_bag (fun vs H Q E h => ?_) (fun cdv A outer s H vs Q E hr h => ?_)
  · obtain ⟨a, ns, rfl, _⟩ := h
    rfl
  obtain ⟨a, ns, rfl, hS, hl, q⟩ := h
  refine ⟨_, (pss_one (ps_ret (pe_lst (pa_cons (pe_lc (own := [("cell", 1)]) rfl sc__law_bag.nd (kpi_list K (pe_slice (ksl_list K) (pv 0) po_none (po_some pe_int))) (blkOk_by (own := [("cell", 1)]) (N := ["script", "cell"]) (sc := defScope s__law_bag) (by decide +kernel)) (fun _ _ _ _ _ => (pg_name (i := 1) sc__law_bag.nd rfl (.inl rfl))) (fun _ _ _ _ _ => pts_nil) (fun _ _ _ _ _ => (pe_callTy call_int1 (by rfl) T.b_int (by decide +kernel) (pa_cons (pv 1) pa_nil)))) (pa_cons pe_int (pa_cons pe_int (pa_cons pe_int (pa_cons pe_int pa_nil)))))))), ?_⟩
  rw [show (L2.start ["script", "cell"] [.ref a] : L2.St) = [some (.ref a), none] from rfl]
  try simp only [WL.cxK]
  walk_at "go"
  refine g_slL hS (cut_to _ 63) fun sl nsl => ?_
  rw [List.take_of_length_le (by rw [List.length_map]; exact hl)]
  have s1 : Same H (upd H sl (.lst (ns.map V.int))) := same_new nsl
  refine f_lcMap (xs := ns.map V.int) (SqL.of upd_same) (by rw [List.length_map]; omega) (fun x => x) (fun _ => rfl) (fun i x H' Q' hx s2 hq => ?_) (fun D nD => ?_)
  · obtain ⟨n, hn, rfl⟩ := map_at hx
    walk_at "go"
    exact hq
  have hid : (ns.map V.int).map (fun x => x) = ns.map V.int := List.map_id _
  rw [hid]
  have s2 := s1.trans (same_new (o := .lst (ns.map V.int)) nD)
  walk_at "go"
  refine ⟨sz_le (n := 5) (by decide), fun b nb => ?_⟩
  have hD : (upd (upd H sl (.lst (ns.map V.int))) D (.lst (ns.map V.int))) D = some (.lst (ns.map V.int)) := upd_same
  have nDb : D ≠ b := ne_of_none hD nb
  exact q D b _ (s2.free nb) (s1.free nD) (s2.trans (same_new nb)) ⟨ns, 0, 0, 104, 0, upd_same, by rw [upd_ne nDb]; exact hD, ⟨by decide, by decide, by decide, by decide, by decide, by decide⟩⟩
theorem ok__law_draw (T : Txt K mg dA)  {f : Addr} {fd : FuncData} (F : Fun K "_law_draw" "_law_draw" s__law_draw f fd) : FnOk P w K mg base CX0 1 f fd ["bag", "size"] spDraw := by
  refine F.ok sc__law_draw (fun vs H Q E h => ?_) (fun cdv A outer s H vs Q E hr h => ?_)
  · obtain ⟨b, c, k, m, rfl, _⟩ := h
    rfl
  obtain ⟨b, c, k, m, rfl, ⟨cells, x1, x2, x3, x4, hb, hc, ⟨a1, a2, a3, a4, a5, a6⟩⟩, hk, hm1, hm2, q⟩ := h
  refine ⟨_, (Evl.pss_cut (ps_if (PW.pt (pw_and (pt_cmpR op_lt (pe_ix (kix_list K) (pv 0) pe_int (fun _ _ => rfl)) pe_int (nomark _)) (pw_and (pt_cmpR op_eq (pe_op op_mod (pe_callTy call_int1 (by rfl) T.b_int (by decide +kernel) (pa_cons (pe_ix (kix_list K) (pv 0) pe_int (fun _ _ => rfl)) pa_nil)) pe_int) pe_int (nomark _)) (pw_and1 (pt_cmpR op_lt (pe_ix (kix_list K) (pv 0) pe_int (fun _ _ => rfl)) (pe_callB (kcall_len_seq K) (by rfl) T.b_len (by decide +kernel) (pa_cons (pe_ix (kix_list K) (pv 0) pe_int (fun _ _ => rfl)) pa_nil)) (nomark _)))))) (pss_cons (ps_set (i := 2) sc__law_draw.nd rfl (.inl rfl) (pe_ix (kix_list K) (pe_ix (kix_list K) (pv 0) pe_int (fun _ _ => rfl)) (pe_ix (kix_list K) (pv 0) pe_int (fun _ _ => rfl)) (fun _ _ => rfl)))
      (pss_cons (ps_asg (pe_op op_add (pe_ix (kix_list K) (pv 0) pe_int (fun _ _ => rfl)) pe_int) (pg_sub (pv 0) pe_int set_list))
      (pss_cons (ps_if (pt_cmpR op_ge (pv 2) (pe_op op_pow pe_int pe_int) (nomark _)) (pss_one (ps_asg (pe_op op_mod (pe_callTy call_int1 (by rfl) T.b_int (by decide +kernel) (pa_cons (pv 2) pa_nil)) (pe_op op_powW (pe_op op_pow pe_int pe_int) pe_int)) (pg_sub (pv 0) pe_int set_list))) pss_nil)
      (pss_one (ps_asg (pe_op op_mod (pe_callTy call_int1 (by rfl) T.b_int (by decide +kernel) (pa_cons (pe_op op_add (pe_op op_mul (pe_ix (kix_list K) (pv 0) pe_int (fun _ _ => rfl)) pe_int) (pe_op op_mod (pe_callTy call_int1 (by rfl) T.b_int (by decide +kernel) (pa_cons (pv 2) pa_nil)) pe_int)) pa_nil)) pe_int) (pg_sub (pv 0) pe_int set_list)))))) pss_nil)
      (pss_cons (ps_if (pt_cmpR op_gt (pe_ix (kix_list K) (pv 0) pe_int (fun _ _ => rfl)) pe_int (nomark _)) (pss_cons (ps_set (i := 3) sc__law_draw.nd rfl (.inl rfl) (pe_op op_mod (pe_callTy call_int1 (by rfl) T.b_int (by decide +kernel) (pa_cons (pe_ix (kix_list K) (pv 0) pe_int (fun _ _ => rfl)) pa_nil)) (pv 1)))
      (pss_cons (ps_asg (pe_op op_fdiv (pe_ix (kix_list K) (pv 0) pe_int (fun _ _ => rfl)) (pv 1)) (pg_sub (pv 0) pe_int set_list))
      (pss_one (ps_ret (pv 3))))) pss_nil)
      (pss_cons (ps_asg (pe_op op_add (pe_ix (kix_list K) (pv 0) pe_int (fun _ _ => rfl)) pe_int) (pg_sub (pv 0) pe_int set_list))
      (pss_cons (ps_set (i := 4) sc__law_draw.nd rfl (.inl rfl) (pe_op op_mod (pe_callTy call_int1 (by rfl) T.b_int (by decide +kernel) (pa_cons (pe_op op_add (pe_op op_pow (pe_op op_add (pe_ix (kix_list K) (pv 0) pe_int (fun _ _ => rfl)) (pe_op op_mul (pe_ix (kix_list K) (pv 0) pe_int (fun _ _ => rfl)) pe_int)) pe_int) (pe_op op_mul (pe_ix (kix_list K) (pv 0) pe_int (fun _ _ => rfl)) pe_int)) pa_nil)) pe_int))
      (pss_cons (ps_set (i := 5) sc__law_draw.nd rfl (.inl rfl) (pe_op op_mod (pe_callTy call_int1 (by rfl) T.b_int (by decide +kernel) (pa_cons (pe_op op_mul (pe_op op_add (pv 4) pe_int) (pe_op op_add (pe_op op_add (pe_op op_fdiv (pv 4) pe_int) (pe_ix (kix_list K) (pv 0) pe_int (fun _ _ => rfl))) pe_int)) pa_nil)) pe_int))
      (pss_one (ps_ret (pe_op op_mod (pe_callTy call_int1 (by rfl) T.b_int (by decide +kernel) (pa_cons (pe_op op_fdiv (pv 5) pe_int) pa_nil)) (pv 1))))))))), ?_⟩
  rw [show (L2.start ["bag", "size", "cell", "got", "first", "second"] [.ref b, .int m] : L2.St) = [some (.ref b), some (.int m), none, none, none, none] from rfl]
  try simp only [WL.cxK]
  have nbc : b ≠ c := fun e => by
    rw [e, hc] at hb
    cases cells with
    | nil => cases hb
    | cons z l => cases hb
  refine ⟨fun σ' H' => ∃ (y : Option V) (x1 x2 x3 x4 : Int), σ' = [some (.ref b), some (.int m), y, none, none, none] ∧ H' b = some (.lst [.ref c, .int x1, .int x2, .int x3, .int x4]) ∧ H' c = some (.lst (cells.map V.int)) ∧ Bg x1 x2 x3 x4 k ∧ Kp b H H', ?_, fun σ' H' hmm => ?_⟩
  · have stay : ∀ y, ∃ (y' : Option V) (z1 z2 z3 z4 : Int), ([some (.ref b), some (.int m), y, none, none, none] : L2.St) = [some (.ref b), some (.int m), y', none, none, none] ∧ H b = some (.lst [.ref c, .int z1, .int z2, .int z3, .int z4]) ∧ H c = some (.lst (cells.map V.int)) ∧ Bg z1 z2 z3 z4 k ∧ Kp b H H := fun y => ⟨y, _, _, _, _, rfl, hb, hc, ⟨a1, a2, a3, a4, a5, a6⟩, Kp.refl H⟩
    walk_at "go"
    refine g_ite (fun e1 => ?_) (fun e1 => ?_)
    · walk_at "go"
      refine g_iteI (fun e2 => ?_) (fun e2 => ?_)
      · walk_at "go"
        rw [List.length_map]
        refine g_ite (fun e3 => ?_) (fun e3 => ?_)
        · have hj : x1.toNat < cells.length := by omega
          have hcell : (cells.map V.int)[x1.toNat]? = some (.int cells[x1.toNat]) := by rw [List.getElem?_map, List.getElem?_eq_getElem hj]; rfl
          generalize cells[x1.toNat] = cell at hcell
          walk_at "go"
          refine g_ixL (SqL.of hc) (at_z (j := x1.toNat) (by omega) hcell) ?_
          walk_at "go"
          have hP : CPowW 10 60 := by unfold CPowW; decide +kernel
          have hP2 : CPowW (10 ^ Int.toNat 60) 10 := by unfold CPowW; decide +kernel
          have hpos : (0 : Int) < (10 ^ Int.toNat 60) ^ Int.toNat 10 := by decide +kernel
          refine g_ite (fun e4 => ?_) (fun e4 => ?_)
          · walk_at "go"
            refine ⟨_, _, _, _, _, rfl, upd_same, by rw [upd_ne nbc.symm]; exact hc, ⟨by omega, Int.emod_nonneg _ (by omega), Int.emod_nonneg _ (by omega), Int.emod_lt_of_pos _ (by omega), a5, a6⟩, (Kp.refl H).set⟩
          · walk_at "go"
            refine ⟨_, _, _, _, _, rfl, upd_same, by rw [upd_ne nbc.symm]; exact hc, ⟨by omega, a2, Int.emod_nonneg _ (by omega), Int.emod_lt_of_pos _ (by omega), a5, a6⟩, (Kp.refl H).set⟩
        · walk_at "go"
          exact stay _
      · walk_at "go"
        exact stay _
    · walk_at "go"
      exact stay _
  clear hb hc a1 a2 a3 a4 a5 a6 x1 x2 x3 x4
  obtain ⟨y, x1, x2, x3, x4, rfl, hb, hc, ⟨a1, a2, a3, a4, a5, a6⟩, kp⟩ := hmm
  walk_at "go"
  refine g_ite (fun e1 => ?_) (fun e1 => ?_)
  · walk_at "go"
    exact q _ _ (Int.emod_nonneg _ (by omega)) (Int.emod_lt_of_pos _ (by omega)) kp.set ⟨cells, _, _, _, _, upd_same, by rw [upd_ne nbc.symm]; exact hc, ⟨a1, Int.ediv_nonneg a2 (by omega), a3, a4, a5, by omega⟩⟩
  walk_at "go"
  have hf0 : 0 ≤ (((x3 + (x4 + 1) * 7919) ^ Int.toNat 2 + (x4 + 1) * 48271) % 2147483647) := Int.emod_nonneg _ (by omega)
  have hf1 : (((x3 + (x4 + 1) * 7919) ^ Int.toNat 2 + (x4 + 1) * 48271) % 2147483647) < 2147483647 := Int.emod_lt_of_pos _ (by omega)
  have hfin : ∀ z : Int, 0 ≤ z % m ∧ z % m < m := fun z => ⟨Int.emod_nonneg _ (by omega), Int.emod_lt_of_pos _ (by omega)⟩
  exact q _ _ (hfin _).1 (hfin _).2 kp.set ⟨cells, _, _, _, _, upd_same, by rw [upd_ne nbc.symm]; exact hc, ⟨a1, a2, a3, a4, by omega, by omega⟩⟩
end
end K00
set_option Elab.async false
set_option linter.all false
set_option maxRecDepth 100000
set_option maxHeartbeats 4000000
namespace K00
open PySem PySem.Spec PyProof.Rows L2 WL SX
local macro_rules | `(tactic| walk_at "lk") => `(tactic| first
  | exact upd_same
  | assumption
  | (rw [upd_ne (by assumption)]; first | exact upd_same | assumption | (rw [upd_ne (by assumption)]; first | exact upd_same | assumption | (rw [upd_ne (by assumption)]; first | exact upd_same | assumption))))
local macro_rules | `(tactic| walk_at "go1") => `(tactic| first
  | (with_reducible refine g_seq ?_)
  | (with_reducible refine g_asg ?_)
  | (with_reducible refine g_name ?_)
  | (with_reducible refine g_sub ?_)
  | ((with_reducible refine' g_var ?gv ?_); (case gv => exact rfl))
  | (with_reducible refine g_c ?_)
  | (with_reducible refine g_op ?_)
  | (with_reducible refine g_un ?_)
  | (with_reducible refine g_I0 ?_)
  | ((with_reducible refine g_I ?gc ?_); (case gc => first | assumption | decide | (show (0 : Int) < _; omega) | exact Or.inr ⟨by omega, by omega⟩ | exact Or.inl ⟨by omega, by omega⟩ | exact ⟨by omega, by omega⟩))
  | (with_reducible refine iteT ?_)
  | (with_reducible refine iteF ?_)
  | (with_reducible refine iteNT ?_)
  | (with_reducible refine iteNF ?_)
  | (with_reducible refine g_andV ?_)
  | (with_reducible refine g_orV ?_)
  | ((with_reducible refine' g_lenS (by assumption) ?_))
  | ((with_reducible refine' g_lenS (SqL.of (by walk_at "lk")) ?_))
  | (with_reducible refine g_U ?_)
  | ((with_reducible refine g_eq ?gs ?_); (case gs => rfl))
  | ((with_reducible refine g_ne ?gs ?_); (case gs => rfl))
  | (with_reducible refine g_drop ?_)
  | (with_reducible refine g_ret ?_)
  | (with_reducible refine g_next ?_)
  | (with_reducible refine g_ifS ?_)
  | (with_reducible refine g_ifE ?_)
  | (with_reducible refine g_test ?_)
  | (with_reducible refine g_tb ?_)
  | (with_reducible refine g_bl ?_)
  | (with_reducible refine g_not ?_)
  | (with_reducible refine g_and ?_)
  | (with_reducible refine g_or ?_)
  | (with_reducible refine g_nil ?_)
  | (with_reducible refine g_cons ?_)
  | (with_reducible refine g_cb ?_)
  | (with_reducible refine g_call ?_)
  | (with_reducible refine g_int ?_)
  | (with_reducible refine g_two ?_)
  | ((with_reducible refine g_lenStr ?gz ?_); (case gz => first | assumption | exact sz_le (by omega)))
  | (with_reducible refine g_m1 ?_)
  | (with_reducible refine g_isS ?_)
  | (with_reducible refine g_nn ?_)
  | (with_reducible refine g_yes ?_)
  | (with_reducible refine g_for ?_)
  | (with_reducible refine g_ckw ?_)
  | (with_reducible refine g_iZip ?_)
  | (with_reducible refine g_lc ?_)
  | (with_reducible refine g_lc2 ?_)
  | (with_reducible refine g_iList ?_)
  | (with_reducible refine g_iRng1 ?_)
  | (with_reducible refine g_iRng2 ?_)
  | (with_reducible refine g_sl ?_)
  | (with_reducible refine g_noPart ?_)
  | (with_reducible refine g_part ?_)
  | (with_reducible refine g_ex1 ?_)
  | (with_reducible refine g_bm ?_)
  | ((with_reducible refine' g_tyL (by walk_at "lk") ?_))
  | ((with_reducible refine' g_aug ?gv ?_); (case gv => exact rfl))
  | (with_reducible refine g_ipI ?_)
  | (with_reducible refine g_turn ?_)
  | (with_reducible refine g_brk ?_)
  | (with_reducible refine g_cont ?_)
  | (with_reducible refine g_sign ?_)
  | (with_reducible refine g_lst ?_)
  | (with_reducible refine g_tup ?_)
  | ((with_reducible refine' g_ixL (by assumption) ?ga ?_); (case ga => assumption))
  | ((with_reducible refine' g_ixL (SqL.of (by walk_at "lk")) ?ga ?_); (case ga => first | exact rfl | assumption))
  | ((with_reducible refine' g_ixT (SqT.of (by walk_at "lk")) ?ga ?_); (case ga => first | exact rfl | assumption))
  | ((with_reducible refine' g_lenT (SqT.of (by walk_at "lk")) ?_))
  | ((with_reducible refine' g_isiS ?ga ?_); (case ga => decide +kernel))
  | ((with_reducible refine' g_isiI ?ga ?_); (case ga => decide +kernel))
  | ((with_reducible refine' g_setL2 ?ga ?gb ?_); (case ga => exact rfl); (case gb => exact rfl))
  | ((with_reducible refine' g_setL (by walk_at "lk") ?ga ?gb ?_); (case ga => exact rfl); (case gb => exact rfl)))
local macro_rules | `(tactic| walk_at "go") => `(tactic| ((repeat walk_at "go1"); try dsimp only [List.set, List.cons_append, List.nil_append]))
def spKws : Sp := fun vs H Q _ => vs = [] ∧ ∀ p H', H p = none → Same H H' → H' p = some (.lst (KWs.map fun x => V.str (S x))) → Q (.ref p) H'
def spSyms : Sp := fun vs H Q _ => vs = [] ∧ ∀ p H', H p = none → Same H H' → H' p = some (.lst (SYMS.map fun x => V.str (S x))) → Q (.ref p) H'
def spName : Sp := fun vs H Q _ => ∃ (b c : Addr) (k m : Nat), vs = [.ref b, .int m] ∧ Bag c b k H ∧ k ≤ 90000 ∧ 1 ≤ m ∧ m ≤ 16 ∧ ∀ w H', Name w → Kp b H H' → Bag c b (k + 20) H' → Q (.str (S w)) H'
def spNumber : Sp := fun vs H Q _ => ∃ (b c : Addr) (k : Nat), vs = [.ref b] ∧ Bag c b k H ∧ k ≤ 90000 ∧ ∀ (n : Nat) H', n ≤ 65535 → Kp b H H' → Bag c b (k + 2) H' → Q (.str (S (TL.numL n))) H'
def spWord : Sp := fun vs H Q _ => ∃ (b c : Addr) (k : Nat) (sh : Bool), vs = [.ref b, .bl sh] ∧ Bag c b k H ∧ k ≤ 80000 ∧ ∀ (kk : Str) (w : List Nat) p H', Good kk w → Kp b H H' → Bag c b (k + 30) H' → H p = none → H' p = some (.tup [.str kk, .str (S w)]) → Q (.ref p) H'
def spGlued : Sp := fun vs H Q _ => ∃ (l r : List Nat) (c : Nat), vs = [.str (S l), .str (S (c :: r))] ∧ l.length ≤ 100 ∧ r.length ≤ 100 ∧ ∀ H', Same H H' → Q (.bl (glued l c)) H'
def spComment : Sp := fun vs H Q _ => ∃ (b c : Addr) (k : Nat) (z : Int), vs = [.ref b, .int z] ∧ Bag c b k H ∧ k ≤ 90000 ∧ ∀ (l : List Nat) H', l.length ≤ 30 → Kp b H H' → Bag c b (k + 30) H' → Q (.str (S (45 :: 45 :: l))) H'
section
variable {K : PySem.W.Frag} {H : Hp} {Q : VK}
theorem g_split {x y : Str} {ys : List (List Nat)} (hb : (y.length == 0) = false) (hz : x.length + 2 ≤ sizeLine) (e : Txt.split x y = ys.map S) (h : ∀ p, H p = none → Q (.ref p) (upd H p (.lst (ys.map fun x => V.str (S x))))) :
    ∃ a b, V.str x = .str a ∧ [V.str y] = [.str b] ∧ (b.length == 0) = false ∧ a.length + 2 ≤ sizeLine ∧ rNewStrs (Txt.split a b) H Q :=
  ⟨x, y, rfl, rfl, hb, hz, fun p np => by rw [e, List.map_map]; exact h p np⟩
end
theorem kw_split : Txt.split (Str.ofString "module end in out wire reg mem use as each from to when always if then else within all") (Str.ofString " ") = (KWs.take 19).map S := by decide +kernel
theorem sym_split : Txt.split (Str.ofString "( ) [ ] { } , : . = <= == != < >= << >> + - * & | ^ ~ # @") (Str.ofString " ") = SYMS.map S := by decide +kernel
theorem lit_ld : Str.ofString "abcdefghijklmnopqrstuvwxyz0123456789" = S (LET ++ DIG) := by decide +kernel
theorem glu_lit : [V.str (Str.ofString "=="), V.str (Str.ofString "<="), V.str (Str.ofString "<<"), V.str (Str.ofString "--")] = GLU.map fun x => V.str (S x) := by
  have e : [Str.ofString "==", Str.ofString "<=", Str.ofString "<<", Str.ofString "--"] = GLU.map S := by decide +kernel
  have e2 := congrArg (List.map V.str) e
  rw [List.map_map] at e2
  exact e2
theorem g_ws {z : Int} (n : Nat) {H : Hp} {Q : VK} (h0 : 0 ≤ z) (h1 : z < n) (h2 : n ≤ 37) (q : ∀ d, WS[z.toNat]? = some d → d ∈ WS → (n = 26 → d ∈ LET) → Q (.str (S [d])) H) : rIxS (.str (Str.ofString "abcdefghijklmnopqrstuvwxyz0123456789_")) (.int z) H Q := by
  have hlt : z.toNat < WS.length := by rw [show WS.length = 37 by decide]; omega
  rw [lit_ws]
  refine g_ixS (sz_le (n := 37) (by decide)) (at_z (j := z.toNat) (by omega) (List.getElem?_eq_getElem (l := (S WS).cps.toList) hlt)) (q _ (List.getElem?_eq_getElem hlt) (List.getElem_mem hlt) fun hn => ?_)
  subst hn
  have h26 : z.toNat < 26 := by omega
  exact (show ∀ (i : Fin 26), WS.getD i.1 0 ∈ LET by decide) ⟨z.toNat, h26⟩ |> fun h => by
    rw [List.getD_eq_getElem?_getD, List.getElem?_eq_getElem hlt] at h
    exact h
theorem cat1 (a : List Nat) (c : Nat) : S a ++ S [c] = S (a ++ [c]) := S_cat a [c]
section
variable {P : Program} {w : World} {K : PySem.W.Frag} {mg : Str → Option Value} {base : Heap} {dA : Nat → Addr}
theorem ok__law_keywords (T : Txt K mg dA)  {f : Addr} {fd : FuncData} (F : Fun K "_law_keywords" "_law_keywords" s__law_keywords f fd) : FnOk P w K mg base CX0 1 f fd [] spKws := by
  refine F.ok sc__law_keywords (fun vs H Q E h => ?_) (fun cdv A outer s H vs Q E hr h => ?_)
  · obtain ⟨rfl, _⟩ := h
    rfl
  obtain ⟨rfl, q⟩ := h
  refine ⟨_, (pss_cons (ps_set (i := 0) sc__law_keywords.nd rfl (.inl rfl) pe_str)
      (pss_one (ps_ret (pe_op op_cat (pe_split (pv 0) pe_str) (pe_lst (pa_cons pe_str (pa_cons pe_str (pa_cons pe_str pa_nil)))))))), ?_⟩
  rw [show (L2.start ["words"] [] : L2.St) = [none] from rfl]
  try simp only [WL.cxK]
  walk_at "go"
  refine g_split (by decide +kernel) (Nat.le_trans (show _ ≤ 100 by decide +kernel) (sz_le (by decide))) kw_split fun l nl => ?_
  have s1 := same_new (o := .lst ((KWs.take 19).map fun x => V.str (S x))) nl
  walk_at "go"
  refine ⟨sz_le (n := 3) (by decide), fun l2 nl2 => ?_⟩
  have s2 := same_new (o := .lst [V.str (Str.ofString "any"), V.str (Str.ofString "odd"), V.str (Str.ofString "promise")]) nl2
  refine ⟨_, _, _, _, rfl, rfl, s2 _ _ upd_same, upd_same, sz_le (n := 22) (by decide +kernel), fun p np => ?_⟩
  refine q p _ ((s1.trans s2).free np) ((s1.trans s2).trans (same_new np)) ?_
  rw [upd_same]
  have e : [Str.ofString "any", Str.ofString "odd", Str.ofString "promise"] = (KWs.drop 19).map S := by decide +kernel
  have e2 := congrArg (List.map V.str) e
  rw [List.map_map] at e2
  refine congrArg (fun l => some (HO.lst l)) ?_
  rw [show [V.str (Str.ofString "any"), V.str (Str.ofString "odd"), V.str (Str.ofString "promise")] = (KWs.drop 19).map fun x => V.str (S x) from e2, ← List.map_append, List.take_append_drop]
theorem ok__law_symbols (T : Txt K mg dA)  {f : Addr} {fd : FuncData} (F : Fun K "_law_symbols" "_law_symbols" s__law_symbols f fd) : FnOk P w K mg base CX0 1 f fd [] spSyms := by
  refine F.ok sc__law_symbols (fun vs H Q E h => ?_) (fun cdv A outer s H vs Q E hr h => ?_)
  · obtain ⟨rfl, _⟩ := h
    rfl
  obtain ⟨rfl, q⟩ := h
  refine ⟨_, (pss_one (ps_ret (pe_split pe_str pe_str))), ?_⟩
  rw [show (L2.start [] [] : L2.St) = [] from rfl]
  try simp only [WL.cxK]
  walk_at "go"
  refine g_split (by decide +kernel) (Nat.le_trans (show _ ≤ 100 by decide +kernel) (sz_le (by decide))) sym_split fun l nl => ?_
  exact q l _ nl (same_new nl) upd_same
theorem ok__law_name (T : Txt K mg dA) (c__law_draw : C8.Cal P w K mg base 1 "_law_draw" spDraw []) {f : Addr} {fd : FuncData} (F : Fun K "_law_name" "_law_name" s__law_name f fd) : FnOk P w K mg base CX0 2 f fd ["bag", "longest"] spName := by
  refine F.ok sc__law_name (fun vs H Q E h => ?_) (fun cdv A outer s H vs Q E hr h => ?_)
  · obtain ⟨b, c, k, m, rfl, _⟩ := h
    rfl
  obtain ⟨b, c, k, m, rfl, hB, hk, hm1, hm, q⟩ := h
  refine ⟨_, (pss_cons (ps_set (i := 2) sc__law_name.nd rfl (.inl rfl) pe_str)
      (pss_cons (ps_set (i := 3) sc__law_name.nd rfl (.inl rfl) (pe_ix ix_str (pv 2) (C8.pe_c c__law_draw hr (by decide) (by rfl) (pa_cons (pv 0) (pa_cons pe_int pa_nil))) (fun _ _ => rfl)))
      (pss_cons (ps_for PassesOwn.never rfl (pi_range1 (by rfl) T.b_range (pa_cons (C8.pe_c c__law_draw hr (by decide) (by rfl) (pa_cons (pv 0) (pa_cons (pv 1) pa_nil))) pa_nil)) (pg_name (i := 4) sc__law_name.nd rfl (.inl rfl)) (pss_one (ps_set (i := 3) sc__law_name.nd rfl (.inl rfl) (pe_op op_add_str (pv 3) (pe_ix ix_str (pv 2) (C8.pe_c c__law_draw hr (by decide) (by rfl) (pa_cons (pv 0) (pa_cons pe_int pa_nil))) (fun _ _ => rfl))))))
      (pss_one (ps_ret (pv 3)))))), ?_⟩
  rw [show (L2.start ["bag", "longest", "signs", "word", "k"] [.ref b, .int m] : L2.St) = [some (.ref b), some (.int m), none, none, none] from rfl]
  try simp only [WL.cxK]
  walk_at "go"
  refine g_draw hB (by omega) (by decide) (by decide) fun d H1 d0 d1 k1 B1 => ?_
  refine g_ws 26 d0 d1 (by decide) fun e _ _ he => ?_
  have he := he rfl
  walk_at "go"
  refine g_draw B1 (by omega) (by omega) (by omega) fun r H2 r0 r1 k2 B2 => ?_
  refine f_rng1 (z := r) (by omega) (by omega) (fun i σ' H' => ∃ (t : List Nat) (y : Option V), σ' = [some (.ref b), some (.int m), some (.str (Str.ofString "abcdefghijklmnopqrstuvwxyz0123456789_")), some (.str (S (e :: t))), y] ∧ t.length = i ∧ (∀ x ∈ t, x ∈ WS) ∧ Kp b H H' ∧ Bag c b (k + 2 + i) H')
    ⟨[], none, rfl, rfl, (fun _ h => by cases h), k1.trans k2, B2⟩ (fun i σ' H' hi hP => ?_) (fun σ' H' hP => ?_)
  · obtain ⟨t, y, rfl, hl, ht, k3, B3⟩ := hP
    walk_at "go"
    refine g_draw B3 (by omega) (by decide) (by decide) fun d3 H3 e0 e1 k4 B4 => ?_
    refine g_ws 37 e0 e1 (by decide) fun x _ hx _ => ?_
    refine g_addS (by rw [S_len, S_len]; exact sz_le (by simp; omega)) ?_
    walk_at "go"
    rw [cat1]
    exact ⟨t ++ [x], _, rfl, by simp [hl], fun u hu => by
      rcases List.mem_append.mp hu with hu | hu
      · exact ht u hu
      · rw [List.mem_singleton.mp hu]; exact hx, k3.trans k4, B4⟩
  · obtain ⟨t, y, rfl, hl, ht, k3, B3⟩ := hP
    walk_at "go"
    exact q _ _ ⟨e, t, rfl, he, ht, by omega⟩ k3 (B3.mono (by omega))
theorem ok__law_number (T : Txt K mg dA) (c__law_draw : C8.Cal P w K mg base 1 "_law_draw" spDraw []) {f : Addr} {fd : FuncData} (F : Fun K "_law_number" "_law_number" s__law_number f fd) : FnOk P w K mg base CX0 2 f fd ["bag"] spNumber := by
  refine F.ok sc__law_number (fun vs H Q E h => ?_) (fun cdv A outer s H vs Q E hr h => ?_)
  · obtain ⟨b, c, k, rfl, _⟩ := h
    rfl
  obtain ⟨b, c, k, rfl, hB, hk, q⟩ := h
  refine ⟨_, (pss_cons (ps_set (i := 1) sc__law_number.nd rfl (.inl rfl) (C8.pe_c c__law_draw hr (by decide) (by rfl) (pa_cons (pv 0) (pa_cons pe_int pa_nil))))
      (pss_cons (ps_if (pt_cmpR op_eq (pv 1) pe_int (nomark _)) (pss_one (ps_ret (pe_callTy call_str_int (by rfl) T.b_str (by decide +kernel) (pa_cons (C8.pe_c c__law_draw hr (by decide) (by rfl) (pa_cons (pv 0) (pa_cons pe_int pa_nil))) pa_nil)))) pss_nil)
      (pss_cons (ps_if (pt_cmpR op_eq (pv 1) pe_int (nomark _)) (pss_one (ps_ret (pe_callTy call_str_int (by rfl) T.b_str (by decide +kernel) (pa_cons (pe_op op_sub pe_int (C8.pe_c c__law_draw hr (by decide) (by rfl) (pa_cons (pv 0) (pa_cons pe_int pa_nil)))) pa_nil)))) pss_nil)
      (pss_one (ps_ret (pe_callTy call_str_int (by rfl) T.b_str (by decide +kernel) (pa_cons (C8.pe_c c__law_draw hr (by decide) (by rfl) (pa_cons (pv 0) (pa_cons pe_int pa_nil))) pa_nil))))))), ?_⟩
  rw [show (L2.start ["bag", "way"] [.ref b] : L2.St) = [some (.ref b), none] from rfl]
  try simp only [WL.cxK]
  have fin : ∀ {n : Nat} {H' : Hp}, n ≤ 65535 → Kp b H H' → Bag c b (k + 2) H' → ∃ i, [V.int (n : Int)] = [V.int i] ∧ i.natAbs.log2 < 1920 ∧ Q (.str (Str.ofString (toString i))) H' := fun {n H'} hn kk B => ⟨(n : Int), rfl, log_small (by omega) (by omega), by rw [num_S]; exact q n H' hn kk B⟩
  walk_at "go"
  refine g_draw hB (by omega) (by decide) (by decide) fun d H1 d0 d1 k1 B1 => ?_
  walk_at "go"
  refine g_iteI (fun e => ?_) (fun e => ?_)
  · walk_at "go"
    refine g_draw B1 (by omega) (by decide) (by decide) fun d2 H2 e0 e1 k2 B2 => ?_
    obtain ⟨n, rfl⟩ : ∃ n : Nat, d2 = n := ⟨d2.toNat, by omega⟩
    exact fin (by omega) (k1.trans k2) B2
  walk_at "go"
  refine g_iteI (fun e => ?_) (fun e => ?_)
  · walk_at "go"
    refine g_draw B1 (by omega) (by decide) (by decide) fun d2 H2 e0 e1 k2 B2 => ?_
    obtain ⟨n, hn⟩ : ∃ n : Nat, 65535 - d2 = n := ⟨(65535 - d2).toNat, by omega⟩
    walk_at "go"
    rw [hn]
    exact fin (by omega) (k1.trans k2) B2
  walk_at "go"
  refine g_draw B1 (by omega) (by decide) (by decide) fun d2 H2 e0 e1 k2 B2 => ?_
  obtain ⟨n, rfl⟩ : ∃ n : Nat, d2 = n := ⟨d2.toNat, by omega⟩
  exact fin (by omega) (k1.trans k2) B2
theorem ok__law_glued (T : Txt K mg dA)  {f : Addr} {fd : FuncData} (F : Fun K "_law_glued" "_law_glued" s__law_glued f fd) : FnOk P w K mg base CX0 1 f fd ["left", "right"] spGlued := by
  refine F.ok sc__law_glued (fun vs H Q E h => ?_) (fun cdv A outer s H vs Q E hr h => ?_)
  · obtain ⟨l, r, c, rfl, _⟩ := h
    rfl
  obtain ⟨l, r, c, rfl, hl, hr', q⟩ := h
  refine ⟨_, (pss_cons (ps_if (pt_cmpR op_eq (pv 0) pe_str (nomark _)) (pss_one (ps_ret pe_bl)) pss_nil)
      (pss_cons (ps_if (pt_cmpR op_in_sign (pe_ix ix_str (pv 0) pe_int (fun _ _ => rfl)) pe_str rfl) (pss_one (ps_ret (pe_cmpR op_in_sign (pe_ix ix_str (pv 1) pe_int (fun _ _ => rfl)) pe_str rfl))) pss_nil)
      (pss_cons (ps_if (pt_cmpR op_in_sign (pe_ix ix_str (pv 0) pe_int (fun _ _ => rfl)) pe_str rfl) (pss_one (ps_ret (pe_cmpR op_in_sign (pe_ix ix_str (pv 1) pe_int (fun _ _ => rfl)) pe_str rfl))) pss_nil)
      (pss_one (ps_ret (pe_cmpR (kop_in_seq K) (pe_op op_add_str (pv 0) (pe_ix ix_str (pv 1) pe_int (fun _ _ => rfl))) (pe_lst (pa_cons pe_str (pa_cons pe_str (pa_cons pe_str (pa_cons pe_str pa_nil))))) rfl)))))), ?_⟩
  rw [show (L2.start ["left", "right"] [.str (S l), .str (S (c :: r))] : L2.St) = [some (.str (S l)), some (.str (S (c :: r)))] from rfl]
  try simp only [WL.cxK]
  have hsl : (S l).length ≤ sizeLine := by rw [S_len]; exact sz_le (by omega)
  have hsr : (S (c :: r)).length ≤ sizeLine := by rw [S_len]; exact sz_le (by simp; omega)
  have hc : (S (c :: r)).cps.toList[0]? = some c := rfl
  walk_at "go"
  cases l with
  | nil =>
    rw [decide_eq_true (show V.str (S []) = V.str (Str.ofString "") from rfl)]
    walk_at "go"
    exact q _ (Same.refl _)
  | cons a t =>
    have ha : (S (a :: t)).cps.toList[0]? = some a := rfl
    unfold glued at q
    rw [decide_eq_false (show ¬ V.str (S (a :: t)) = V.str (Str.ofString "") from fun e => by
      have e1 : S (a :: t) = S [] := V.str.inj e
      cases S_inj e1)]
    walk_at "go"
    refine g_ixS hsl (at_z (j := 0) rfl ha) ?_
    walk_at "go"
    rw [lit_let]
    refine g_ite (fun e => ?_) (fun e => ?_)
    · have e : a ∈ LET := e
      walk_at "go"
      refine g_ixS hsr (at_z (j := 0) rfl hc) ?_
      walk_at "go"
      rw [lit_ld]
      simp only [e, if_true] at q
      exact q _ (Same.refl _)
    have e : a ∉ LET := e
    walk_at "go"
    refine g_ixS hsl (at_z (j := 0) rfl ha) ?_
    walk_at "go"
    rw [lit_dig]
    refine g_ite (fun e2 => ?_) (fun e2 => ?_)
    · have e2 : a ∈ DIG := e2
      walk_at "go"
      refine g_ixS hsr (at_z (j := 0) rfl hc) ?_
      walk_at "go"
      simp only [e, e2, if_true, if_false] at q
      exact q _ (Same.refl _)
    have e2 : a ∉ DIG := e2
    simp only [e, e2, if_false] at q
    walk_at "go"
    refine g_ixS hsr (at_z (j := 0) rfl hc) ?_
    refine g_addS (by rw [S_len, S_len]; exact sz_le (by simp at hl ⊢; omega)) ?_
    rw [cat1]
    walk_at "go"
    refine ⟨sz_le (n := 4) (by decide), fun p np => ?_⟩
    refine g_inL (l := GLU) (SqL.of (by rw [upd_same]; exact congrArg (fun l => some (HO.lst l)) glu_lit)) ?_
    exact q _ (same_new np)
theorem ok__law_comment (T : Txt K mg dA) (c__law_draw : C8.Cal P w K mg base 1 "_law_draw" spDraw []) {f : Addr} {fd : FuncData} (F : Fun K "_law_comment" "_law_comment" s__law_comment f fd) : FnOk P w K mg base CX0 2 f fd ["bag", "room"] spComment := by
  refine F.ok sc__law_comment (fun vs H Q E h => ?_) (fun cdv A outer s H vs Q E hr h => ?_)
  · obtain ⟨b, c, k, z, rfl, _⟩ := h
    rfl
  obtain ⟨b, c, k, z, rfl, hB, hk, q⟩ := h
  refine ⟨_, (pss_cons (ps_set (i := 2) sc__law_comment.nd rfl (.inl rfl) pe_str)
      (pss_cons (ps_set (i := 2) sc__law_comment.nd rfl (.inl rfl) (pe_op op_add_str (pv 2) pe_str))
      (pss_cons (ps_set (i := 3) sc__law_comment.nd rfl (.inl rfl) pe_str)
      (pss_cons (ps_for PassesOwn.never rfl (pi_range1 (by rfl) T.b_range (pa_cons (C8.pe_c c__law_draw hr (by decide) (by rfl) (pa_cons (pv 0) (pa_cons pe_int pa_nil))) pa_nil)) (pg_name (i := 4) sc__law_comment.nd rfl (.inl rfl)) (pss_one (ps_if (pt_cmpR op_lt (pe_callB call_len_str (by rfl) T.b_len (by decide +kernel) (pa_cons (pv 3) pa_nil)) (pv 1) (nomark _)) (pss_one (ps_set (i := 3) sc__law_comment.nd rfl (.inl rfl) (pe_op op_add_str (pv 3) (pe_ix ix_str (pv 2) (C8.pe_c c__law_draw hr (by decide) (by rfl) (pa_cons (pv 0) (pa_cons pe_int pa_nil))) (fun _ _ => rfl))))) pss_nil)))
      (pss_one (ps_ret (pv 3))))))), ?_⟩
  rw [show (L2.start ["bag", "room", "signs", "text", "k"] [.ref b, .int z] : L2.St) = [some (.ref b), some (.int z), none, none, none] from rfl]
  try simp only [WL.cxK]
  walk_at "go"
  refine g_addS ?_ ?_
  · exact Nat.le_trans (by decide +kernel : _ ≤ 100) (sz_le (by decide))
  generalize hsg : (Str.ofString " !\"#$&'()*+,-./0123456789:;<=>?@ABCDEFGHIJKLMNOPQRSTUVWXYZ[\\]^_`" ++ Str.ofString "abcdefghijklmnopqrstuvwxyz{|}~") = sg
  have hsl : sg.cps.toList.length = 94 := by rw [← hsg]; decide +kernel
  walk_at "go"
  refine g_draw hB (by omega) (by decide) (by decide) fun n H1 n0 n1 k1 B1 => ?_
  refine f_rng1 (z := n) (by omega) (by omega) (fun i σ' H' => ∃ (t : List Nat) (y : Option V), σ' = [some (.ref b), some (.int z), some (.str sg), some (.str (S (45 :: 45 :: t))), y] ∧ t.length ≤ i ∧ Kp b H H' ∧ Bag c b (k + 1 + i) H')
    ⟨[], none, rfl, Nat.le_refl _, k1, B1⟩ (fun i σ' H' hi hP => ?_) (fun σ' H' hP => ?_)
  · obtain ⟨t, y, rfl, hl, k3, B3⟩ := hP
    have hsz : (S (45 :: 45 :: t)).length ≤ sizeLine := by rw [S_len]; exact sz_le (by simp; omega)
    walk_at "go"
    refine g_ite (fun e => ?_) (fun e => ?_)
    · walk_at "go"
      refine g_draw B3 (by omega) (by decide) (by decide) fun d3 H3 e0 e1 k4 B4 => ?_
      have hd : d3.toNat < sg.cps.toList.length := by omega
      refine g_ixS (z := d3) (by rw [show sg.length = 94 from hsl]; exact sz_le (by decide)) (at_z (z := d3) (j := d3.toNat) (by omega) (List.getElem?_eq_getElem hd)) ?_
      refine g_addS (by rw [S_len, S_len]; exact sz_le (by simp; omega)) ?_
      walk_at "go"
      rw [cat1]
      exact ⟨t ++ [_], _, rfl, by simp; omega, k3.trans k4, B4⟩
    · walk_at "go"
      exact ⟨t, _, rfl, by omega, k3, B3.mono (by omega)⟩
  · obtain ⟨t, y, rfl, hl, k3, B3⟩ := hP
    walk_at "go"
    exact q t _ (by omega) k3 (B3.mono (by omega))
end
end K00
set_option Elab.async false
set_option linter.all false
set_option maxRecDepth 100000
set_option maxHeartbeats 4000000
namespace K00
open PySem PySem.Spec PyProof.Rows L2 WL SX
local macro_rules | `(tactic| walk_at "lk") => `(tactic| first
  | exact upd_same
  | assumption
  | (rw [upd_ne (by assumption)]; first | exact upd_same | assumption | (rw [upd_ne (by assumption)]; first | exact upd_same | assumption | (rw [upd_ne (by assumption)]; first | exact upd_same | assumption))))
local macro_rules | `(tactic| walk_at "go1") => `(tactic| first
  | (with_reducible refine g_seq ?_)
  | (with_reducible refine g_asg ?_)
  | (with_reducible refine g_name ?_)
  | (with_reducible refine g_sub ?_)
  | ((with_reducible refine' g_var ?gv ?_); (case gv => exact rfl))
  | (with_reducible refine g_c ?_)
  | (with_reducible refine g_op ?_)
  | (with_reducible refine g_un ?_)
  | (with_reducible refine g_I0 ?_)
  | ((with_reducible refine g_I ?gc ?_); (case gc => first | assumption | decide | (show (0 : Int) < _; omega) | exact Or.inr ⟨by omega, by omega⟩ | exact Or.inl ⟨by omega, by omega⟩ | exact ⟨by omega, by omega⟩))
  | (with_reducible refine iteT ?_)
  | (with_reducible refine iteF ?_)
  | (with_reducible refine iteNT ?_)
  | (with_reducible refine iteNF ?_)
  | (with_reducible refine g_andV ?_)
  | (with_reducible refine g_orV ?_)
  | ((with_reducible refine' g_lenS (by assumption) ?_))
  | ((with_reducible refine' g_lenS (SqL.of (by walk_at "lk")) ?_))
  | (with_reducible refine g_U ?_)
  | ((with_reducible refine g_eq ?gs ?_); (case gs => rfl))
  | ((with_reducible refine g_ne ?gs ?_); (case gs => rfl))
  | (with_reducible refine g_drop ?_)
  | (with_reducible refine g_ret ?_)
  | (with_reducible refine g_next ?_)
  | (with_reducible refine g_ifS ?_)
  | (with_reducible refine g_ifE ?_)
  | (with_reducible refine g_test ?_)
  | (with_reducible refine g_tb ?_)
  | (with_reducible refine g_bl ?_)
  | (with_reducible refine g_not ?_)
  | (with_reducible refine g_and ?_)
  | (with_reducible refine g_or ?_)
  | (with_reducible refine g_nil ?_)
  | (with_reducible refine g_cons ?_)
  | (with_reducible refine g_cb ?_)
  | (with_reducible refine g_call ?_)
  | (with_reducible refine g_int ?_)
  | (with_reducible refine g_two ?_)
  | ((with_reducible refine g_lenStr ?gz ?_); (case gz => first | assumption | exact sz_le (by omega)))
  | (with_reducible refine g_m1 ?_)
  | (with_reducible refine g_isS ?_)
  | (with_reducible refine g_nn ?_)
  | (with_reducible refine g_yes ?_)
  | (with_reducible refine g_for ?_)
  | (with_reducible refine g_ckw ?_)
  | (with_reducible refine g_iZip ?_)
  | (with_reducible refine g_lc ?_)
  | (with_reducible refine g_lc2 ?_)
  | (with_reducible refine g_iList ?_)
  | (with_reducible refine g_iRng1 ?_)
  | (with_reducible refine g_iRng2 ?_)
  | (with_reducible refine g_sl ?_)
  | (with_reducible refine g_noPart ?_)
  | (with_reducible refine g_part ?_)
  | (with_reducible refine g_ex1 ?_)
  | (with_reducible refine g_bm ?_)
  | ((with_reducible refine' g_tyL (by walk_at "lk") ?_))
  | ((with_reducible refine' g_aug ?gv ?_); (case gv => exact rfl))
  | (with_reducible refine g_ipI ?_)
  | (with_reducible refine g_turn ?_)
  | (with_reducible refine g_brk ?_)
  | (with_reducible refine g_cont ?_)
  | (with_reducible refine g_sign ?_)
  | (with_reducible refine g_lst ?_)
  | (with_reducible refine g_tup ?_)
  | ((with_reducible refine' g_ixL (by assumption) ?ga ?_); (case ga => assumption))
  | ((with_reducible refine' g_ixL (SqL.of (by walk_at "lk")) ?ga ?_); (case ga => first | exact rfl | assumption))
  | ((with_reducible refine' g_ixT (SqT.of (by walk_at "lk")) ?ga ?_); (case ga => first | exact rfl | assumption))
  | ((with_reducible refine' g_lenT (SqT.of (by walk_at "lk")) ?_))
  | ((with_reducible refine' g_isiS (b := true) ?ga ?_); (case ga => decide +kernel))
  | ((with_reducible refine' g_isiS (b := false) ?ga ?_); (case ga => decide +kernel))
  | ((with_reducible refine' g_isiI (b := true) ?ga ?_); (case ga => decide +kernel))
  | ((with_reducible refine' g_isiI (b := false) ?ga ?_); (case ga => decide +kernel))
  | ((with_reducible refine' g_setL2 ?ga ?gb ?_); (case ga => exact rfl); (case gb => exact rfl))
  | ((with_reducible refine' g_setL (by walk_at "lk") ?ga ?gb ?_); (case ga => exact rfl); (case gb => exact rfl)))
local macro_rules | `(tactic| walk_at "go") => `(tactic| ((repeat walk_at "go1"); try dsimp only [List.set, List.cons_append, List.nil_append]))
/-- a list of token rows -/
def tv (t : Tok') : List V := [.str t.1, .str (S t.2.1), .int (t.2.2 : Nat)]
def Toks (K : PySem.W.Frag) (H : Hp) (p : Addr) (ts : List Tok') : Prop := ∃ ps : List (Addr × Tok'), H p = some (.lst (ps.map fun r => V.ref r.1)) ∧ ps.map (·.2) = ts ∧ ∀ r ∈ ps, H r.1 = some (.tup (tv r.2))
def spAlike (K : PySem.W.Frag) : Sp := fun vs H Q _ => ∃ (a d : Addr) (ts : List Tok'), vs = [.ref a, .ref d] ∧ Toks K H a ts ∧ Toks K H d ts ∧ ts.length ≤ 100 ∧ Q (.bl true) H
theorem name_cut {c : Nat} {r : List Nat} (h1 : c ∈ LET) (h2 : ∀ x ∈ r, x ∈ WS) (h3 : r.length ≤ 15) (h4 : 1 ≤ r.length) : Name ((c :: r).take ((c :: r).length - 1)) := by
  refine ⟨c, r.take (r.length - 1), ?_, h1, fun x hx => h2 x (List.mem_of_mem_take hx), by rw [List.length_take]; omega⟩
  obtain ⟨m, hm⟩ : ∃ m, r.length = m + 1 := ⟨r.length - 1, by omega⟩
  rw [List.length_cons, hm]
  rfl
section
variable {P : Program} {w : World} {K : PySem.W.Frag} {mg : Str → Option Value} {base : Heap} {dA : Nat → Addr}
theorem ok__law_word (T : Txt K mg dA) (c__law_draw : C8.Cal P w K mg base 1 "_law_draw" spDraw []) (c__law_name : C8.Cal P w K mg base 2 "_law_name" spName []) (c__law_keywords : C8.Cal P w K mg base 1 "_law_keywords" spKws []) (c__law_number : C8.Cal P w K mg base 2 "_law_number" spNumber []) (c__law_symbols : C8.Cal P w K mg base 1 "_law_symbols" spSyms []) {f : Addr} {fd : FuncData} (F : Fun K "_law_word" "_law_word" s__law_word f fd) : FnOk P w K mg base CX0 3 f fd ["bag", "short"] spWord := by
  refine F.ok sc__law_word (fun vs H Q E h => ?_) (fun cdv A outer s H vs Q E hr h => ?_)
  · obtain ⟨b, c, k, sh, rfl, _⟩ := h
    rfl
  obtain ⟨b, c, k, sh, rfl, hB, hk, q⟩ := h
  refine ⟨_, (pss_cons (ps_set (i := 2) sc__law_word.nd rfl (.inl rfl) (C8.pe_c c__law_draw hr (by decide) (by rfl) (pa_cons (pv 0) (pa_cons pe_int pa_nil))))
      (pss_cons (ps_if (pt_cmpR op_gt (pv 2) pe_int (nomark _)) (pss_one (ps_ret (pe_tup (pa_cons pe_str (pa_cons (pe_ix (kix_list K) (my_c0 c__law_symbols hr (by decide) (by rfl)) (C8.pe_c c__law_draw hr (by decide) (by rfl) (pa_cons (pv 0) (pa_cons pe_int pa_nil))) (fun _ _ => rfl)) pa_nil))))) pss_nil)
      (pss_cons (ps_if (PW.pt (pw_and (pt_cmpR op_eq (pv 2) pe_int (nomark _)) (pw_and1 (pt_val (pv 1))))) (pss_one (ps_ret (pe_tup (pa_cons pe_str (pa_cons (pe_callTy call_str_int (by rfl) T.b_str (by decide +kernel) (pa_cons (C8.pe_c c__law_draw hr (by decide) (by rfl) (pa_cons (pv 0) (pa_cons pe_int pa_nil))) pa_nil)) pa_nil))))) pss_nil)
      (pss_cons (ps_if (pt_cmpR op_eq (pv 2) pe_int (nomark _)) (pss_one (ps_ret (pe_tup (pa_cons pe_str (pa_cons (C8.pe_c c__law_number hr (by decide) (by rfl) (pa_cons (pv 0) pa_nil)) pa_nil))))) pss_nil)
      (Evl.pss_cut (ps_if (pt_val (pv 1)) (pss_one (ps_set (i := 3) sc__law_word.nd rfl (.inl rfl) (C8.pe_c c__law_name hr (by decide) (by rfl) (pa_cons (pv 0) (pa_cons pe_int pa_nil))))) (pss_one (ps_if (pt_cmpR op_lt (pv 2) pe_int (nomark _)) (pss_one (ps_set (i := 3) sc__law_word.nd rfl (.inl rfl) (C8.pe_c c__law_name hr (by decide) (by rfl) (pa_cons (pv 0) (pa_cons pe_int pa_nil))))) (pss_cons (ps_set (i := 3) sc__law_word.nd rfl (.inl rfl) (pe_ix (kix_list K) (my_c0 c__law_keywords hr (by decide) (by rfl)) (C8.pe_c c__law_draw hr (by decide) (by rfl) (pa_cons (pv 0) (pa_cons pe_int pa_nil))) (fun _ _ => rfl)))
      (pss_one (ps_if (PW.pt (pw_and (pt_cmpR op_eq (pv 2) pe_int (nomark _)) (pw_and1 (pt_cmpR op_eq (C8.pe_c c__law_draw hr (by decide) (by rfl) (pa_cons (pv 0) (pa_cons pe_int pa_nil))) pe_int (nomark _))))) (pss_one (ps_set (i := 3) sc__law_word.nd rfl (.inl rfl) (pe_slice sl_str (pv 3) po_none (po_some (pe_op op_sub (pe_callB call_len_str (by rfl) T.b_len (by decide +kernel) (pa_cons (pv 3) pa_nil)) pe_int))))) (pss_one (ps_if (pt_cmpR op_eq (pv 2) pe_int (nomark _)) (pss_one (ps_set (i := 3) sc__law_word.nd rfl (.inl rfl) (pe_op op_add_str (pv 3) (pe_ix ix_str pe_str (C8.pe_c c__law_draw hr (by decide) (by rfl) (pa_cons (pv 0) (pa_cons pe_int pa_nil))) (fun _ _ => rfl))))) pss_nil))))))))
      (pss_cons (ps_if (pt_cmpR (kop_in_seq K) (pv 3) (my_c0 c__law_keywords hr (by decide) (by rfl)) rfl) (pss_one (ps_ret (pe_tup (pa_cons pe_str (pa_cons (pv 3) pa_nil))))) pss_nil)
      (pss_one (ps_ret (pe_tup (pa_cons pe_str (pa_cons (pv 3) pa_nil))))))))))), ?_⟩
  rw [show (L2.start ["bag", "short", "way", "word"] [.ref b, .bl sh] : L2.St) = [some (.ref b), some (.bl sh), none, none] from rfl]
  try simp only [WL.cxK]
  walk_at "go"
  refine g_draw hB (by omega) (by decide) (by decide) fun d H1 d0 d1 k1 B1 => ?_
  have fin : ∀ {kk : Str} {w : List Nat} {H' : Hp}, Good kk w → Kp b H H' → Bag c b (k + 30) H' → [V.str kk, V.str (S w)].length ≤ sizeLine ∧ ∀ p, H' p = none → Q (.ref p) (upd H' p (.tup [V.str kk, V.str (S w)])) := fun hg kk B => ⟨sz_le (n := 2) (by decide), fun p np => q _ _ p _ hg (kk.new np) (B.new np) (kk.free (B.nb np).1 np) upd_same⟩
  walk_at "go"
  refine g_ite (fun e => ?_) (fun e => ?_)
  · walk_at "go"
    refine ⟨rfl, fun p H2 np s2 hp => ?_⟩
    walk_at "go"
    refine g_draw (B1.same s2) (by omega) (by decide) (by decide) fun d2 H3 e0 e1 k3 B3 => ?_
    have hd : d2.toNat < SYMS.length := by rw [show SYMS.length = 26 by decide]; omega
    refine g_ixL (SqL.of (k3 _ _ hp (B1.nb np).1)) (at_z (j := d2.toNat) (by omega) (by rw [List.getElem?_map, List.getElem?_eq_getElem hd]; rfl)) ?_
    walk_at "go"
    exact fin (.sym (List.getElem_mem hd)) ((k1.trans (Kp.same s2)).trans k3) (B3.mono (by omega))
  have num : ∀ {n : Nat} {H' : Hp}, n ≤ 65535 → Kp b H H' → Bag c b (k + 30) H' → [V.str (Str.ofString "number"), V.str (S (TL.numL n))].length ≤ sizeLine ∧ ∀ p, H' p = none → Q (.ref p) (upd H' p (.tup [V.str (Str.ofString "number"), V.str (S (TL.numL n))])) := fun hn kk B => fin (.num _ hn) kk B
  walk_at "go"
  refine g_iteI (fun e4 => ?_) (fun e4 => ?_)
  · walk_at "go"
    refine g_iteB (fun e5 => ?_) (fun e5 => ?_)
    · walk_at "go"
      refine g_draw B1 (by omega) (by decide) (by decide) fun d2 H2 e0 e1 k2 B2 => ?_
      obtain ⟨n, rfl⟩ : ∃ n : Nat, d2 = n := ⟨d2.toNat, by omega⟩
      refine ⟨(n : Int), rfl, log_small (by omega) (by omega), ?_⟩
      walk_at "go"
      rw [num_S]
      exact num (by omega) (k1.trans k2) (B2.mono (by omega))
    · walk_at "go"
      refine g_iteI (fun _ => ?_) (fun h => absurd e4 h)
      walk_at "go"
      refine ⟨b, c, k + 1, rfl, B1, by omega, fun n H2 hn k2 B2 => ?_⟩
      walk_at "go"
      exact num hn (k1.trans k2) (B2.mono (by omega))
  walk_at "go"
  refine g_iteI (fun h => absurd h e4) (fun _ => ?_)
  walk_at "go"
  refine ⟨fun σ' H' => ∃ w, σ' = [some (.ref b), some (.bl sh), some (.int d), some (.str (S w))] ∧ Name w ∧ Kp b H H' ∧ Bag c b (k + 28) H', ?_, fun σ' H' hm => ?_⟩
  · walk_at "go"
    refine g_iteB (fun e5 => ?_) (fun e5 => ?_)
    · walk_at "go"
      refine ⟨b, c, k + 1, 1, rfl, B1, by omega, by decide, by decide, fun w H2 hw k2 B2 => ?_⟩
      walk_at "go"
      exact ⟨w, rfl, hw, k1.trans k2, B2.mono (by omega)⟩
    walk_at "go"
    refine g_ite (fun e6 => ?_) (fun e6 => ?_)
    · walk_at "go"
      refine ⟨b, c, k + 1, 16, rfl, B1, by omega, by decide, by decide, fun w H2 hw k2 B2 => ?_⟩
      walk_at "go"
      exact ⟨w, rfl, hw, k1.trans k2, B2.mono (by omega)⟩
    walk_at "go"
    refine ⟨rfl, fun p H2 np s2 hp => ?_⟩
    walk_at "go"
    refine g_draw (B1.same s2) (by omega) (by decide) (by decide) fun d2 H3 e0 e1 k3 B3 => ?_
    have hd : d2.toNat < KWs.length := by rw [show KWs.length = 22 by decide]; omega
    obtain ⟨x, r, hw, hx, hr, hr7, hr1⟩ := kw_name _ (List.getElem_mem hd)
    have k03 := (k1.trans (Kp.same s2)).trans k3
    refine g_ixL (v := .str (S (x :: r))) (SqL.of (k3 _ _ hp (B1.nb np).1)) (at_z (j := d2.toNat) (by omega) (by rw [List.getElem?_map, List.getElem?_eq_getElem hd, ← hw]; rfl)) ?_
    have hsz : (S (x :: r)).length ≤ sizeLine := by rw [S_len]; exact sz_le (by simp; omega)
    have n0 : Name (x :: r) := ⟨x, r, rfl, hx, hr, by omega⟩
    walk_at "go"
    refine g_iteI (fun e7 => ?_) (fun e7 => ?_)
    · walk_at "go"
      refine g_draw B3 (by omega) (by decide) (by decide) fun d3 H4 f0 f1 k4 B4 => ?_
      walk_at "go"
      refine g_iteI (fun e8 => ?_) (fun e8 => ?_)
      · walk_at "go"
        rw [S_len, show ((x :: r).length : Int) - 1 = (((x :: r).length - 1 : Nat) : Int) by simp]
        refine g_slS hsz (cutS_to (x :: r) _) ?_
        walk_at "go"
        exact ⟨_, rfl, name_cut hx hr (by omega) hr1, k03.trans k4, B4.mono (by omega)⟩
      · walk_at "go"
        refine g_iteI (fun _ => ?_) (fun h => absurd e7 h)
        walk_at "go"
        refine g_draw B4 (by omega) (by decide) (by decide) fun d5 H5 h0 h1 k5 B5 => ?_
        refine g_ws 37 h0 h1 (by decide) fun y _ hy _ => ?_
        refine g_addS (by rw [S_len, S_len]; exact sz_le (by simp; omega)) ?_
        walk_at "go"
        rw [cat1]
        exact ⟨x :: r ++ [y], rfl, ⟨x, r ++ [y], rfl, hx, fun u hu => by
          rcases List.mem_append.mp hu with hu | hu
          · exact hr u hu
          · rw [List.mem_singleton.mp hu]; exact hy, by simp; omega⟩, (k03.trans k4).trans k5, B5.mono (by omega)⟩
    · walk_at "go"
      refine g_iteI (fun h => absurd h e7) (fun _ => ?_)
      walk_at "go"
      exact ⟨x :: r, rfl, n0, k03, B3.mono (by omega)⟩
  obtain ⟨w, rfl, hw, k2, B2⟩ := hm
  walk_at "go"
  refine ⟨rfl, fun p H2 np s2 hp => ?_⟩
  refine g_inL (SqL.of hp) ?_
  have k3 := k2.trans (Kp.same s2)
  have B3 := B2.same s2
  walk_at "go"
  refine g_ite (fun e => ?_) (fun e => ?_)
  · walk_at "go"
    exact fin (.key e hw) k3 (B3.mono (by omega))
  · walk_at "go"
    exact fin (.name hw e) k3 (B3.mono (by omega))
theorem ok__law_alike (T : Txt K mg dA)  {f : Addr} {fd : FuncData} (F : Fun K "_law_alike" "_law_alike" s__law_alike f fd) : FnOk P w K mg base CX0 1 f fd ["actual", "due"] (spAlike K) := by
  refine F.ok sc__law_alike (fun vs H Q E h => ?_) (fun cdv A outer s H vs Q E hr h => ?_)
  · obtain ⟨a, d, ts, rfl, _⟩ := h
    rfl
  obtain ⟨a, d, ts, rfl, ⟨pa, ha, ea, ra⟩, ⟨pd, hd, ed, rd⟩, hn, q⟩ := h
  refine ⟨_, (pss_cons (ps_if (PW.pt (pw_or (pt_not (pt_val (pe_callB (kcall_isi K) (by rfl) T.b_isinstance (by decide +kernel) (pa_cons (pv 0) (pa_cons (pe_bltn (v := .ty "list") (by rfl) T.b_list (by decide +kernel) rfl) pa_nil))))) (pw_or1 (pt_cmpR op_ne (pe_callB (kcall_len_seq K) (by rfl) T.b_len (by decide +kernel) (pa_cons (pv 0) pa_nil)) (pe_callB (kcall_len_seq K) (by rfl) T.b_len (by decide +kernel) (pa_cons (pv 1) pa_nil)) (nomark _))))) (pss_one (ps_ret pe_bl)) pss_nil)
      (pss_cons (ps_for PassesOwn.never rfl (pi_range1 (by rfl) T.b_range (pa_cons (pe_callB (kcall_len_seq K) (by rfl) T.b_len (by decide +kernel) (pa_cons (pv 1) pa_nil)) pa_nil)) (pg_name (i := 2) sc__law_alike.nd rfl (.inl rfl)) (pss_cons (ps_set (i := 3) sc__law_alike.nd rfl (.inl rfl) (pe_ix (kix_list K) (pv 0) (pv 2) (fun _ _ => rfl)))
      (pss_cons (ps_if (PW.pt (pw_or (pt_not (pt_val (pe_callB (kcall_isi K) (by rfl) T.b_isinstance (by decide +kernel) (pa_cons (pv 3) (pa_cons (pe_bltn (v := .ty "tuple") (by rfl) T.b_tuple (by decide +kernel) rfl) pa_nil))))) (pw_or1 (pt_cmpR op_ne (pe_callB (kcall_len_seq K) (by rfl) T.b_len (by decide +kernel) (pa_cons (pv 3) pa_nil)) pe_int (nomark _))))) (pss_one (ps_ret pe_bl)) pss_nil)
      (pss_cons (ps_if (PW.pt (pw_or (pt_not (pt_val (pe_callB (kcall_isi K) (by rfl) T.b_isinstance (by decide +kernel) (pa_cons (pe_ix (kix_tup K) (pv 3) pe_int (fun _ _ => rfl)) (pa_cons (pe_bltn (v := .ty "str") (by rfl) T.b_str (by decide +kernel) rfl) pa_nil))))) (pw_or1 (pt_not (pt_val (pe_callB (kcall_isi K) (by rfl) T.b_isinstance (by decide +kernel) (pa_cons (pe_ix (kix_tup K) (pv 3) pe_int (fun _ _ => rfl)) (pa_cons (pe_bltn (v := .ty "str") (by rfl) T.b_str (by decide +kernel) rfl) pa_nil)))))))) (pss_one (ps_ret pe_bl)) pss_nil)
      (pss_cons (ps_if (PW.pt (pw_or (pt_not (pt_val (pe_callB (kcall_isi K) (by rfl) T.b_isinstance (by decide +kernel) (pa_cons (pe_ix (kix_tup K) (pv 3) pe_int (fun _ _ => rfl)) (pa_cons (pe_bltn (v := .ty "int") (by rfl) T.b_int (by decide +kernel) rfl) pa_nil))))) (pw_or1 (pt_val (pe_callB (kcall_isi K) (by rfl) T.b_isinstance (by decide +kernel) (pa_cons (pe_ix (kix_tup K) (pv 3) pe_int (fun _ _ => rfl)) (pa_cons (pe_bltn (v := .ty "bool") (by rfl) T.b_bool (by decide +kernel) rfl) pa_nil))))))) (pss_one (ps_ret pe_bl)) pss_nil)
      (pss_one (ps_if (PW.pt (pw_or (pt_cmpR op_ne (pe_ix (kix_tup K) (pv 3) pe_int (fun _ _ => rfl)) (pe_ix (kix_tup K) (pe_ix (kix_list K) (pv 1) (pv 2) (fun _ _ => rfl)) pe_int (fun _ _ => rfl)) (nomark _)) (pw_or (pt_cmpR op_ne (pe_ix (kix_tup K) (pv 3) pe_int (fun _ _ => rfl)) (pe_ix (kix_tup K) (pe_ix (kix_list K) (pv 1) (pv 2) (fun _ _ => rfl)) pe_int (fun _ _ => rfl)) (nomark _)) (pw_or1 (pt_cmpR op_ne (pe_ix (kix_tup K) (pv 3) pe_int (fun _ _ => rfl)) (pe_ix (kix_tup K) (pe_ix (kix_list K) (pv 1) (pv 2) (fun _ _ => rfl)) pe_int (fun _ _ => rfl)) (nomark _)))))) (pss_one (ps_ret pe_bl)) pss_nil)))))))
      (pss_one (ps_ret pe_bl)))), ?_⟩
  rw [show (L2.start ["actual", "due", "k", "row"] [.ref a, .ref d] : L2.St) = [some (.ref a), some (.ref d), none, none] from rfl]
  try simp only [WL.cxK]
  have la : pa.length = ts.length := by rw [← ea, List.length_map]
  have ld : pd.length = ts.length := by rw [← ed, List.length_map]
  walk_at "go"
  refine g_isiB (.base (.lst ha)) (b := true) (by decide +kernel) ?_
  walk_at "go"
  rw [List.length_map, List.length_map, la, ld]
  rw [decide_eq_true rfl]
  walk_at "go"
  rw [List.length_map, ld]
  refine f_rng1 (z := (ts.length : Nat)) (by omega) (by omega) (fun i σ' H' => ∃ (y z : Option V), σ' = [some (.ref a), some (.ref d), y, z] ∧ H' = H) ⟨none, none, rfl, rfl⟩ (fun i σ' H' hi hP => ?_) (fun σ' H' hP => ?_)
  · obtain ⟨y, z, rfl, rfl⟩ := hP
    have hit : i < ts.length := by omega
    have hpa : pa[i]? = some pa[i] := List.getElem?_eq_getElem (by omega)
    have hpd : pd[i]? = some pd[i] := List.getElem?_eq_getElem (by omega)
    have eaw : (pa.map (·.2))[i]? = (pd.map (·.2))[i]? := by rw [ea, ed]
    rw [List.getElem?_map, List.getElem?_map, hpa, hpd] at eaw
    have hra := ra _ (List.mem_of_getElem? hpa)
    have hrd := rd _ (List.mem_of_getElem? hpd)
    generalize pa[i] = u at hpa eaw hra
    generalize pd[i] = v at hpd eaw hrd
    obtain ⟨au, t⟩ := u
    obtain ⟨av, t'⟩ := v
    have : t = t' := Option.some.inj eaw
    subst this
    clear eaw
    have ixa : atI (pa.map fun r => V.ref r.1) (i : Int) = some (.ref au) := atI_nat (by rw [List.getElem?_map, hpa]; rfl)
    have ixd : atI (pd.map fun r => V.ref r.1) (i : Int) = some (.ref av) := atI_nat (by rw [List.getElem?_map, hpd]; rfl)
    have hra : H' au = some (.tup [.str t.1, .str (S t.2.1), .int (t.2.2 : Nat)]) := hra
    have hrd : H' av = some (.tup [.str t.1, .str (S t.2.1), .int (t.2.2 : Nat)]) := hrd
    walk_at "go"
    refine g_isiB (.base (.tup hra)) (b := true) (by decide +kernel) ?_
    walk_at "go"
    refine g_iteNI (fun h => absurd rfl h) (fun _ => ?_)
    walk_at "go"
    rw [decide_eq_true rfl]
    walk_at "go"
    rw [decide_eq_true rfl]
    walk_at "go"
    rw [decide_eq_true rfl]
    walk_at "go"
    trace_state
    exact ⟨_, _, rfl, rfl⟩
  · obtain ⟨y, z, rfl, rfl⟩ := hP
    walk_at "go"
    exact q
end
end K00
set_option Elab.async false
set_option linter.all false
set_option maxRecDepth 100000
set_option maxHeartbeats 4000000
namespace K00
open PySem PySem.Spec PyProof.Rows L2 WL SX
local macro_rules | `(tactic| walk_at "lk") => `(tactic| first
  | exact upd_same
  | assumption
  | (rw [upd_ne (by assumption)]; first | exact upd_same | assumption | (rw [upd_ne (by assumption)]; first | exact upd_same | assumption | (rw [upd_ne (by assumption)]; first | exact upd_same | assumption))))
local macro_rules | `(tactic| walk_at "go1") => `(tactic| first
  | (with_reducible refine g_seq ?_)
  | (with_reducible refine g_asg ?_)
  | (with_reducible refine g_name ?_)
  | (with_reducible refine g_sub ?_)
  | ((with_reducible refine' g_var ?gv ?_); (case gv => exact rfl))
  | (with_reducible refine g_c ?_)
  | (with_reducible refine g_op ?_)
  | (with_reducible refine g_un ?_)
  | (with_reducible refine g_I0 ?_)
  | ((with_reducible refine g_I ?gc ?_); (case gc => first | assumption | decide | (show (0 : Int) < _; omega) | exact Or.inr ⟨by omega, by omega⟩ | exact Or.inl ⟨by omega, by omega⟩ | exact ⟨by omega, by omega⟩))
  | (with_reducible refine iteT ?_)
  | (with_reducible refine iteF ?_)
  | (with_reducible refine iteNT ?_)
  | (with_reducible refine iteNF ?_)
  | (with_reducible refine g_andV ?_)
  | (with_reducible refine g_orV ?_)
  | ((with_reducible refine' g_lenS (by assumption) ?_))
  | ((with_reducible refine' g_lenS (SqL.of (by walk_at "lk")) ?_))
  | (with_reducible refine g_U ?_)
  | ((with_reducible refine g_eq ?gs ?_); (case gs => rfl))
  | ((with_reducible refine g_ne ?gs ?_); (case gs => rfl))
  | (with_reducible refine g_drop ?_)
  | (with_reducible refine g_ret ?_)
  | (with_reducible refine g_next ?_)
  | (with_reducible refine g_ifS ?_)
  | (with_reducible refine g_ifE ?_)
  | (with_reducible refine g_test ?_)
  | (with_reducible refine g_tb ?_)
  | (with_reducible refine g_bl ?_)
  | (with_reducible refine g_not ?_)
  | (with_reducible refine g_and ?_)
  | (with_reducible refine g_or ?_)
  | (with_reducible refine g_nil ?_)
  | (with_reducible refine g_cons ?_)
  | (with_reducible refine g_cb ?_)
  | (with_reducible refine g_call ?_)
  | (with_reducible refine g_int ?_)
  | (with_reducible refine g_two ?_)
  | ((with_reducible refine g_lenStr ?gz ?_); (case gz => first | assumption | exact sz_le (by omega)))
  | (with_reducible refine g_m1 ?_)
  | (with_reducible refine g_isS ?_)
  | (with_reducible refine g_nn ?_)
  | (with_reducible refine g_yes ?_)
  | (with_reducible refine g_for ?_)
  | (with_reducible refine g_ckw ?_)
  | (with_reducible refine g_iZip ?_)
  | (with_reducible refine g_lc ?_)
  | (with_reducible refine g_lc2 ?_)
  | (with_reducible refine g_iList ?_)
  | (with_reducible refine g_iRng1 ?_)
  | (with_reducible refine g_iRng2 ?_)
  | (with_reducible refine g_sl ?_)
  | (with_reducible refine g_noPart ?_)
  | (with_reducible refine g_part ?_)
  | (with_reducible refine g_ex1 ?_)
  | (with_reducible refine g_bm ?_)
  | ((with_reducible refine' g_tyL (by walk_at "lk") ?_))
  | ((with_reducible refine' g_aug ?gv ?_); (case gv => exact rfl))
  | (with_reducible refine g_ipI ?_)
  | (with_reducible refine g_turn ?_)
  | (with_reducible refine g_brk ?_)
  | (with_reducible refine g_cont ?_)
  | (with_reducible refine g_sign ?_)
  | (with_reducible refine g_lst ?_)
  | (with_reducible refine g_tup ?_)
  | ((with_reducible refine' g_ixL (by assumption) ?ga ?_); (case ga => assumption))
  | ((with_reducible refine' g_ixL (SqL.of (by walk_at "lk")) ?ga ?_); (case ga => first | exact rfl | assumption))
  | ((with_reducible refine' g_ixT (SqT.of (by walk_at "lk")) ?ga ?_); (case ga => first | exact rfl | assumption))
  | ((with_reducible refine' g_lenT (SqT.of (by walk_at "lk")) ?_))
  | ((with_reducible refine' g_isiS (b := true) ?ga ?_); (case ga => decide +kernel))
  | ((with_reducible refine' g_isiS (b := false) ?ga ?_); (case ga => decide +kernel))
  | ((with_reducible refine' g_isiI (b := true) ?ga ?_); (case ga => decide +kernel))
  | ((with_reducible refine' g_isiI (b := false) ?ga ?_); (case ga => decide +kernel))
  | ((with_reducible refine' g_setL2 ?ga ?gb ?_); (case ga => exact rfl); (case gb => exact rfl))
  | ((with_reducible refine' g_setL (by walk_at "lk") ?ga ?gb ?_); (case ga => exact rfl); (case gb => exact rfl)))
local macro_rules | `(tactic| walk_at "go") => `(tactic| ((repeat walk_at "go1"); try dsimp only [List.set, List.cons_append, List.nil_append]))
def spTokens (K : PySem.W.Frag) : Sp := fun vs H Q _ => ∃ (l : List Nat) (ln : Int) (ts : List Tok'), vs = [.str (S l), .int ln] ∧ Lex l 0 ts ∧ l.length ≤ 1000 ∧ ts.length ≤ 40 ∧ ∀ p H', H p = none → Same H H' → Toks K H' p ts → Q (.ref p) H'
section
variable {P : Program} {w : World} {K : PySem.W.Frag} {mg : Str → Option Value} {base : Heap} {dA : Nat → Addr}
theorem ok_tokens (T : Txt K mg dA) (c__end_of_token : C8.Cal P w K mg base 2 "_end_of_token" spTokEnd []) (c__kind_of : C8.Cal P w K mg base 2 "_kind_of" spKind []) {f : Addr} {fd : FuncData} (F : Fun K "tokens" "tokens" s_tokens f fd) : FnOk P w K mg base CX0 3 f fd ["text", "line"] (spTokens K) := by
  refine F.ok sc_tokens (fun vs H Q E h => ?_) (fun cdv A outer s H vs Q E hr h => ?_)
  · obtain ⟨l, ln, ts, rfl, _⟩ := h
    rfl
  obtain ⟨l, ln, ts, rfl, hL, hl, h40, q⟩ := h
  refine ⟨_, (pss_cons (ps_set (i := 2) sc_tokens.nd rfl (.inl rfl) (pe_lst pa_nil))
      (pss_cons (ps_set (i := 3) sc_tokens.nd rfl (.inl rfl) pe_int)
      (Evl.pss_cut (ps_while PassesOwn.never (pt_cmpR op_lt (pv 3) (pe_callB call_len_str (by rfl) T.b_len (by decide +kernel) (pa_cons (pv 0) pa_nil)) (nomark _)) (pss_cons (ps_if (pt_cmpR op_eq (pe_ix ix_str (pv 0) (pv 3) (fun _ _ => rfl)) pe_str (nomark _)) (pss_cons (ps_aug (i := 3) sc_tokens.nd rfl (.inl rfl) pe_int ip_add)
      (pss_one ps_continue)) pss_nil)
      (pss_cons (ps_if (pt_cmpR op_eq (pe_slice sl_str (pv 0) (po_some (pv 3)) (po_some (pe_op op_add (pv 3) pe_int))) pe_str (nomark _)) (pss_one ps_break) pss_nil)
      (pss_cons (ps_set (i := 4) sc_tokens.nd rfl (.inl rfl) (C8.pe_c c__end_of_token hr (by decide) (by rfl) (pa_cons (pv 0) (pa_cons (pv 3) pa_nil))))
      (pss_cons (ps_set (i := 5) sc_tokens.nd rfl (.inl rfl) (pe_slice sl_str (pv 0) (po_some (pv 3)) (po_some (pv 4))))
      (pss_cons (ps_set (i := 6) sc_tokens.nd rfl (.inl rfl) (C8.pe_c c__kind_of hr (by decide) (by rfl) (pa_cons (pv 5) pa_nil)))
      (pss_cons (ps_if (pt_cmpR op_isN (pv 6) pe_non (nomark _)) pss_never pss_nil)
      (pss_cons (ps_expr (kpe_bm K PySem.F.plainAttrs_list PySem.F.slot_list_append PySem.F.type_list_append mt_append (pv 2) (pa_cons (pe_tup (pa_cons (pv 6) (pa_cons (pv 5) (pa_cons (pe_op op_add (pv 3) pe_int) pa_nil)))) pa_nil)))
      (pss_one (ps_set (i := 3) sc_tokens.nd rfl (.inl rfl) (pv 4)))))))))))
      (pss_cons (ps_if (pt_cmpR op_gt (pe_callB (kcall_len_seq K) (by rfl) T.b_len (by decide +kernel) (pa_cons (pv 2) pa_nil)) (C8.pe_gc (by rfl) T.g_MOST_TOKENS) (nomark _)) pss_never pss_nil)
      (pss_one (ps_ret (pv 2))))))), ?_⟩
  rw [show (L2.start ["text", "line", "found", "at", "end", "word", "kind"] [.str (S l), .int ln] : L2.St) = [some (.str (S l)), some (.int ln), none, none, none, none, none] from rfl]
  try simp only [WL.cxK]
  have hsz : (S l).length ≤ sizeLine := by rw [S_len]; exact sz_le (by omega)
  walk_at "go"
  refine ⟨by decide, fun p np => ?_⟩
  walk_at "go"
  refine ⟨fun σ' H' => ∃ (y0 y z u : Option V) (ps : List (Addr × Tok')), σ' = [some (.str (S l)), some (.int ln), some (.ref p), y0, y, z, u] ∧ Same H H' ∧ H' p = some (.lst (ps.map fun r => V.ref r.1)) ∧ ps.map (·.2) = ts ∧ ∀ r ∈ ps, H' r.1 = some (.tup (tv r.2)), ?_, fun σ' H' hm => ?_⟩
  · refine f_while (fun μ σ' H' => ∃ (a : Nat) (done rest : List Tok') (ps : List (Addr × Tok')) (y z u : Option V), σ' = [some (.str (S l)), some (.int ln), some (.ref p), some (.int a), y, z, u] ∧ done ++ rest = ts ∧ a ≤ l.length ∧ Lex (l.drop a) a rest ∧ μ = l.length - a ∧ Same H H' ∧ H' p = some (.lst (ps.map fun r => V.ref r.1)) ∧ ps.map (·.2) = done ∧ ∀ r ∈ ps, H' r.1 = some (.tup (tv r.2)) ∧ r.1 ≠ p) l.length
      ⟨0, [], ts, [], none, none, none, rfl, rfl, Nat.zero_le _, hL, rfl, same_new np, upd_same, rfl, fun _ h => by cases h⟩ ?_
    rintro μ σ' H' ⟨a, done, rest, ps, y, z, u, rfl, hdr, ha, hX, rfl, hs, hp, hpd, hrow⟩
    have out : ∀ (y0 y z u : Option V), rest = [] → ∃ (y0' y' z' u' : Option V) (ps : List (Addr × Tok')), ([some (.str (S l)), some (.int ln), some (.ref p), y0, y, z, u] : L2.St) = [some (.str (S l)), some (.int ln), some (.ref p), y0', y', z', u'] ∧ Same H H' ∧ H' p = some (.lst (ps.map fun r => V.ref r.1)) ∧ ps.map (·.2) = ts ∧ ∀ r ∈ ps, H' r.1 = some (.tup (tv r.2)) :=
      fun y0 y z u hr => ⟨y0, y, z, u, ps, rfl, hs, hp, by rw [hpd, ← hdr, hr, List.append_nil], fun r h => (hrow r h).1⟩
    walk_at "go"
    rw [S_len]
    generalize hr : l.drop a = r at hX
    refine g_ite (fun e => ?_) (fun e => ?_)
    · have hlt : a < l.length := by omega
      have hc : (S l).cps.toList[a]? = some l[a] := List.getElem?_eq_getElem hlt
      have hd : l.drop a = l[a] :: l.drop (a + 1) := List.drop_eq_getElem_cons hlt
      generalize l[a] = c at hc hd
      rw [hr] at hd
      walk_at "go"
      refine g_ixS hsz (at_z (j := a) rfl hc) ?_
      walk_at "go"
      cases hX with
      | nil => cases hd
      | rem n r' =>
        have : 45 = c := (List.cons.inj hd).1
        subst this
        rw [decide_eq_false (show ¬ V.str (⟨#[45]⟩ : Str) = V.str (Str.ofString " ") by decide +kernel)]
        walk_at "go"
        refine g_slS hsz (cut2 l a) ?_
        rw [hr]
        walk_at "go"
        rw [decide_eq_true (show V.str (S (List.take 2 (45 :: 45 :: r'))) = V.str (Str.ofString "--") from rfl)]
        walk_at "go"
        exact out _ _ _ _ rfl
      | sp hX =>
        have : 32 = c := (List.cons.inj hd).1
        subst this
        have hd2 := (List.cons.inj hd).2
        rw [decide_eq_true (show V.str (⟨#[32]⟩ : Str) = V.str (Str.ofString " ") from rfl)]
        walk_at "go"
        exact ⟨l.length - (a + 1), by omega, a + 1, done, rest, ps, y, z, u, by rw [show (a : Int) + 1 = ((a + 1 : Nat) : Int) by omega], hdr, by omega, by rw [← hd2]; exact hX, rfl, hs, hp, hpd, hrow⟩
      | @tok k w r' n ts' hg ht h2 hX =>
        obtain ⟨d, t, ew, h32, _, hw16⟩ := good_head hg
        have : d = c := by rw [ew] at hd; exact (List.cons.inj hd).1
        subst this
        have hw : (l.drop a).take w.length = w := by rw [hr, List.take_left]
        have hw' : l.drop (a + w.length) = r' := by rw [← List.drop_drop, hr, List.drop_left]
        have hlen : a + w.length ≤ l.length := by
          have := congrArg List.length hr
          rw [List.length_drop, List.length_append] at this; omega
        rw [decide_eq_false (show ¬ V.str (⟨#[d]⟩ : Str) = V.str (Str.ofString " ") from fun h => by
          have e1 : S [d] = S [32] := V.str.inj h
          exact h32 (List.cons.inj (S_inj e1)).1)]
        walk_at "go"
        refine g_slS hsz (cut2 l a) ?_
        rw [hr]
        walk_at "go"
        rw [decide_eq_false (show ¬ V.str (S (List.take 2 (w ++ r'))) = V.str (Str.ofString "--") from fun h => by
          have e1 : S (List.take 2 (w ++ r')) = S [45, 45] := V.str.inj h
          exact h2 (S_inj e1))]
        walk_at "go"
        refine ⟨l, a, rfl, hlt, hl, ?_⟩
        rw [hr, ht]
        walk_at "go"
        refine g_slS hsz (cutS_nat l a (a + w.length)) ?_
        rw [show a + w.length - a = w.length by omega, hw]
        walk_at "go"
        refine ⟨k, w, rfl, hg, ?_⟩
        walk_at "go"
        rw [decide_eq_false (show ¬ V.str k = V.non from fun h => by cases h)]
        walk_at "go"
        refine ⟨sz_le (n := 3) (by decide), fun tp ntp => ?_⟩
        have hps : ps.length ≤ 40 := by
          have h1 := congrArg List.length hpd
          have h2 := congrArg List.length hdr
          rw [List.length_map] at h1
          rw [List.length_append] at h2
          omega
        walk_at "go"
        refine g_app (by rw [upd_ne (ne_of_none hp ntp)]; exact hp) (sz_lt (by rw [List.length_map]; omega)) ?_
        walk_at "go"
        have npt : tp ≠ p := (ne_of_none hp ntp).symm
        refine ⟨l.length - (a + w.length), ?_, a + w.length, done ++ [(k, w, a + 1)], ts', ps ++ [(tp, (k, w, a + 1))], _, _, _, rfl, by rw [← hdr]; simp, hlen, by rw [hw']; exact hX, rfl, same_mut (hs.trans (same_new ntp)) np, by rw [upd_same, List.map_append]; rfl, by rw [List.map_append, hpd]; rfl, fun u hu => ?_⟩
        · have : 0 < w.length := by rw [ew]; simp
          omega
        · rcases List.mem_append.mp hu with hu | hu
          · obtain ⟨h1, h2⟩ := hrow u hu
            exact ⟨by rw [upd_ne h2, upd_ne (ne_of_none h1 ntp)]; exact h1, h2⟩
          · rw [List.mem_singleton.mp hu]
            refine ⟨?_, npt⟩
            rw [upd_ne npt, upd_same]
            rfl
    · have : l.drop a = [] := List.drop_of_length_le (by omega)
      rw [hr] at this
      subst this
      have hre : rest = [] := by
        generalize hnil : ([] : List Nat) = e0 at hX
        cases hX with
        | nil => rfl
        | rem => cases hnil
        | sp => cases hnil
        | @tok k w r' n ts' hg ht h2 hX =>
          obtain ⟨d, t, ew, _⟩ := good_head hg
          rw [ew] at hnil; cases hnil
      exact out _ _ _ _ hre
  obtain ⟨y0, y, z, u, ps, rfl, hs, hp, hpt, hrow⟩ := hm
  have hl40 : ps.length ≤ 40 := by rw [← hpt, List.length_map] at h40; exact h40
  walk_at "go"
  rw [List.length_map, decide_eq_false (show ¬ (40 : Int) < (ps.length : Int) by omega)]
  walk_at "go"
  exact q p _ np hs ⟨ps, hp, hpt, hrow⟩
end
end K00
set_option Elab.async false
set_option linter.all false
set_option maxRecDepth 100000
set_option maxHeartbeats 4000000
namespace K00
open PySem PySem.Spec PyProof.Rows L2 WL SX
local macro_rules | `(tactic| walk_at "lk") => `(tactic| first
  | exact upd_same
  | assumption
  | (rw [upd_ne (by assumption)]; first | exact upd_same | assumption | (rw [upd_ne (by assumption)]; first | exact upd_same | assumption | (rw [upd_ne (by assumption)]; first | exact upd_same | assumption))))
local macro_rules | `(tactic| walk_at "go1") => `(tactic| first
  | (with_reducible refine g_seq ?_)
  | (with_reducible refine g_asg ?_)
  | (with_reducible refine g_name ?_)
  | (with_reducible refine g_sub ?_)
  | ((with_reducible refine' g_var ?gv ?_); (case gv => exact rfl))
  | (with_reducible refine g_c ?_)
  | (with_reducible refine g_op ?_)
  | (with_reducible refine g_un ?_)
  | (with_reducible refine g_I0 ?_)
  | ((with_reducible refine g_I ?gc ?_); (case gc => first | assumption | decide | (show (0 : Int) < _; omega) | exact Or.inr ⟨by omega, by omega⟩ | exact Or.inl ⟨by omega, by omega⟩ | exact ⟨by omega, by omega⟩))
  | (with_reducible refine iteT ?_)
  | (with_reducible refine iteF ?_)
  | (with_reducible refine iteNT ?_)
  | (with_reducible refine iteNF ?_)
  | (with_reducible refine g_andV ?_)
  | (with_reducible refine g_orV ?_)
  | ((with_reducible refine' g_lenS (by assumption) ?_))
  | ((with_reducible refine' g_lenS (SqL.of (by walk_at "lk")) ?_))
  | (with_reducible refine g_U ?_)
  | ((with_reducible refine g_eq ?gs ?_); (case gs => rfl))
  | ((with_reducible refine g_ne ?gs ?_); (case gs => rfl))
  | (with_reducible refine g_drop ?_)
  | (with_reducible refine g_ret ?_)
  | (with_reducible refine g_next ?_)
  | (with_reducible refine g_ifS ?_)
  | (with_reducible refine g_ifE ?_)
  | (with_reducible refine g_test ?_)
  | (with_reducible refine g_tb ?_)
  | (with_reducible refine g_bl ?_)
  | (with_reducible refine g_not ?_)
  | (with_reducible refine g_and ?_)
  | (with_reducible refine g_or ?_)
  | (with_reducible refine g_nil ?_)
  | (with_reducible refine g_cons ?_)
  | (with_reducible refine g_cb ?_)
  | (with_reducible refine g_call ?_)
  | (with_reducible refine g_int ?_)
  | (with_reducible refine g_two ?_)
  | ((with_reducible refine g_lenStr ?gz ?_); (case gz => first | assumption | exact sz_le (by omega)))
  | (with_reducible refine g_m1 ?_)
  | (with_reducible refine g_isS ?_)
  | (with_reducible refine g_nn ?_)
  | (with_reducible refine g_yes ?_)
  | (with_reducible refine g_for ?_)
  | (with_reducible refine g_ckw ?_)
  | (with_reducible refine g_iZip ?_)
  | (with_reducible refine g_lc ?_)
  | (with_reducible refine g_lc2 ?_)
  | (with_reducible refine g_iList ?_)
  | (with_reducible refine g_iRng1 ?_)
  | (with_reducible refine g_iRng2 ?_)
  | (with_reducible refine g_sl ?_)
  | (with_reducible refine g_noPart ?_)
  | (with_reducible refine g_part ?_)
  | (with_reducible refine g_ex1 ?_)
  | (with_reducible refine g_bm ?_)
  | ((with_reducible refine' g_tyL (by walk_at "lk") ?_))
  | ((with_reducible refine' g_aug ?gv ?_); (case gv => exact rfl))
  | (with_reducible refine g_ipI ?_)
  | (with_reducible refine g_turn ?_)
  | (with_reducible refine g_brk ?_)
  | (with_reducible refine g_cont ?_)
  | (with_reducible refine g_sign ?_)
  | (with_reducible refine g_lst ?_)
  | (with_reducible refine g_tup ?_)
  | ((with_reducible refine' g_ixL (by assumption) ?ga ?_); (case ga => assumption))
  | ((with_reducible refine' g_ixL (SqL.of (by walk_at "lk")) ?ga ?_); (case ga => first | exact rfl | assumption))
  | ((with_reducible refine' g_ixT (SqT.of (by walk_at "lk")) ?ga ?_); (case ga => first | exact rfl | assumption))
  | ((with_reducible refine' g_lenT (SqT.of (by walk_at "lk")) ?_))
  | ((with_reducible refine' g_isiS (b := true) ?ga ?_); (case ga => decide +kernel))
  | ((with_reducible refine' g_isiS (b := false) ?ga ?_); (case ga => decide +kernel))
  | ((with_reducible refine' g_isiI (b := true) ?ga ?_); (case ga => decide +kernel))
  | ((with_reducible refine' g_isiI (b := false) ?ga ?_); (case ga => decide +kernel))
  | ((with_reducible refine' g_setL2 ?ga ?gb ?_); (case ga => exact rfl); (case gb => exact rfl))
  | ((with_reducible refine' g_setL (by walk_at "lk") ?ga ?gb ?_); (case ga => exact rfl); (case gb => exact rfl)))
local macro_rules | `(tactic| walk_at "go") => `(tactic| ((repeat walk_at "go1"); try dsimp only [List.set, List.cons_append, List.nil_append]))
def spLaw (K : PySem.W.Frag) : Sp := fun vs H Q _ => ∃ (a : Addr) (ns : List Int), vs = [.ref a] ∧ SqL K H a (ns.map V.int) ∧ ns.length ≤ 63 ∧ ∀ H', Q (.bl true) H'
theorem Bag.nt {c b a : Addr} {k : Nat} {H : Hp} {xs : List V} (h : Bag c b k H) (e : H a = some (.tup xs)) : a ≠ b := by
  rintro rfl
  obtain ⟨cells, x1, x2, x3, x4, hb, _⟩ := h
  rw [e] at hb; cases hb
theorem mul_sp (n : Nat) : Txt.mul (Str.ofString " ") (n : Int) = S (List.replicate n 32) := by
  rw [show Str.ofString " " = (⟨#[32]⟩ : Str) by decide +kernel, mul_one_sign]
  rfl
/-- the due rows: the list at p, its rows apart from it -/
def Due (H : Hp) (p : Addr) (ts : List Tok') : Prop := ∃ ps : List (Addr × Tok'), H p = some (.lst (ps.map fun r => V.ref r.1)) ∧ ps.map (·.2) = ts ∧ ∀ r ∈ ps, H r.1 = some (.tup (tv r.2)) ∧ r.1 ≠ p
theorem Due.kp {c b p : Addr} {k : Nat} {H H' : Hp} {ts : List Tok'} (h : Due H p ts) (B : Bag c b k H) (n : p ≠ b) (kp : Kp b H H') : Due H' p ts := by
  obtain ⟨ps, h1, h2, h3⟩ := h
  exact ⟨ps, kp _ _ h1 n, h2, fun r hr => ⟨kp _ _ (h3 r hr).1 (B.nt (h3 r hr).1), (h3 r hr).2⟩⟩
theorem Due.same {p : Addr} {H H' : Hp} {ts : List Tok'} (h : Due H p ts) (s : Same H H') : Due H' p ts := by
  obtain ⟨ps, h1, h2, h3⟩ := h
  exact ⟨ps, s _ _ h1, h2, fun r hr => ⟨s _ _ (h3 r hr).1, (h3 r hr).2⟩⟩
section
variable {P : Program} {w : World} {K : PySem.W.Frag} {mg : Str → Option Value} {base : Heap} {dA : Nat → Addr}
theorem ok_law (T : Txt K mg dA) (c__law_bag : C8.Cal P w K mg base 1 "_law_bag" (spBag K) []) (c__law_draw : C8.Cal P w K mg base 1 "_law_draw" spDraw []) (c__law_alike : C8.Cal P w K mg base 1 "_law_alike" (spAlike K) []) (c__law_word : C8.Cal P w K mg base 3 "_law_word" spWord []) (c_tokens : C8.Cal P w K mg base 3 "tokens" (spTokens K) []) (c__law_glued : C8.Cal P w K mg base 1 "_law_glued" spGlued []) (c__law_comment : C8.Cal P w K mg base 2 "_law_comment" spComment []) {f : Addr} {fd : FuncData} (F : Fun K "law" "law" s_law f fd) : FnOk P w K mg base CX0 4 f fd ["script"] (spLaw K) := by
  refine F.ok sc_law (fun vs H Q E h => ?_) (fun cdv A outer s H vs Q E hr h => ?_)
  · obtain ⟨a, ns, rfl, _⟩ := h
    rfl
  obtain ⟨a, ns, rfl, hS, hl, q⟩ := h
  refine ⟨_, (pss_cons (ps_set (i := 1) sc_law.nd rfl (.inl rfl) (C8.pe_c c__law_bag hr (by decide) (by rfl) (pa_cons (pv 0) pa_nil)))
      (pss_cons (ps_set (i := 2) sc_law.nd rfl (.inl rfl) (pe_cmpR op_eq (C8.pe_c c__law_draw hr (by decide) (by rfl) (pa_cons (pv 1) (pa_cons pe_int pa_nil))) pe_int (nomark _)))
      (pss_cons (ps_set (i := 3) sc_law.nd rfl (.inl rfl) (pe_cmpR op_eq (C8.pe_c c__law_draw hr (by decide) (by rfl) (pa_cons (pv 1) (pa_cons pe_int pa_nil))) pe_int (nomark _)))
      (pss_cons (ps_set (i := 4) sc_law.nd rfl (.inl rfl) (pe_op op_add pe_int (C8.pe_c c__law_draw hr (by decide) (by rfl) (pa_cons (pv 1) (pa_cons pe_int pa_nil)))))
      (pss_cons (ps_set (i := 5) sc_law.nd rfl (.inl rfl) (C8.pe_c c__law_draw hr (by decide) (by rfl) (pa_cons (pv 1) (pa_cons pe_int pa_nil))))
      (Evl.pss_cut (ps_if (pt_val (pv 2)) (pss_one (ps_set (i := 5) sc_law.nd rfl (.inl rfl) (pe_op op_add pe_int (pe_op op_fdiv (pv 5) pe_int)))) pss_nil)
      (pss_cons (ps_set (i := 6) sc_law.nd rfl (.inl rfl) (pe_op op_mul_str pe_str (C8.pe_c c__law_draw hr (by decide) (by rfl) (pa_cons (pv 1) (pa_cons pe_int pa_nil)))))
      (pss_cons (ps_set (i := 7) sc_law.nd rfl (.inl rfl) (pe_lst pa_nil))
      (pss_cons (ps_set (i := 8) sc_law.nd rfl (.inl rfl) pe_str)
      (Evl.pss_cut (ps_for PassesOwn.never rfl (pi_range1 (by rfl) T.b_range (pa_cons (pv 5) pa_nil)) (pg_name (i := 9) sc_law.nd rfl (.inl rfl)) (pss_cons (ps_set (i := 10) sc_law.nd rfl (.inl rfl) (C8.pe_c c__law_word hr (by decide) (by rfl) (pa_cons (pv 1) (pa_cons (pv 2) pa_nil))))
      (pss_cons (ps_set (i := 11) sc_law.nd rfl (.inl rfl) (pe_ix (kix_list K) (pe_lst (pa_cons pe_int (pa_cons pe_int (pa_cons pe_int (pa_cons pe_int pa_nil))))) (C8.pe_c c__law_draw hr (by decide) (by rfl) (pa_cons (pv 1) (pa_cons pe_int pa_nil))) (fun _ _ => rfl)))
      (Evl.pss_cut (ps_if (PW.pt (pw_and (pt_cmpR op_eq (pv 11) pe_int (nomark _)) (pw_and1 (pt_val (C8.pe_c c__law_glued hr (by decide) (by rfl) (pa_cons (pv 8) (pa_cons (pe_ix (kix_tup K) (pv 10) pe_int (fun _ _ => rfl)) pa_nil))))))) (pss_one (ps_set (i := 11) sc_law.nd rfl (.inl rfl) pe_int)) pss_nil)
      (pss_cons (ps_if (pt_cmpR op_gt (pe_op op_add (pe_op op_add (pe_callB call_len_str (by rfl) T.b_len (by decide +kernel) (pa_cons (pv 6) pa_nil)) (pv 11)) (pe_callB call_len_str (by rfl) T.b_len (by decide +kernel) (pa_cons (pe_ix (kix_tup K) (pv 10) pe_int (fun _ _ => rfl)) pa_nil))) pe_int (nomark _)) (pss_one ps_break) pss_nil)
      (pss_cons (ps_set (i := 6) sc_law.nd rfl (.inl rfl) (pe_op op_add_str (pv 6) (pe_op op_mul_str pe_str (pv 11))))
      (pss_cons (ps_expr (kpe_bm K PySem.F.plainAttrs_list PySem.F.slot_list_append PySem.F.type_list_append mt_append (pv 7) (pa_cons (pe_tup (pa_cons (pe_ix (kix_tup K) (pv 10) pe_int (fun _ _ => rfl)) (pa_cons (pe_ix (kix_tup K) (pv 10) pe_int (fun _ _ => rfl)) (pa_cons (pe_op op_add (pe_callB call_len_str (by rfl) T.b_len (by decide +kernel) (pa_cons (pv 6) pa_nil)) pe_int) pa_nil)))) pa_nil)))
      (pss_cons (ps_set (i := 6) sc_law.nd rfl (.inl rfl) (pe_op op_add_str (pv 6) (pe_ix (kix_tup K) (pv 10) pe_int (fun _ _ => rfl))))
      (pss_one (ps_set (i := 8) sc_law.nd rfl (.inl rfl) (pe_ix (kix_tup K) (pv 10) pe_int (fun _ _ => rfl))))))))))))
      (pss_cons (ps_set (i := 12) sc_law.nd rfl (.inl rfl) (C8.pe_c c__law_draw hr (by decide) (by rfl) (pa_cons (pv 1) (pa_cons pe_int pa_nil))))
      (Evl.pss_cut (ps_if (PW.pt (pw_and (pt_cmpR op_eq (pv 12) pe_int (nomark _)) (pw_and1 (pt_cmpR op_eq (pv 8) pe_str (nomark _))))) (pss_one (ps_set (i := 12) sc_law.nd rfl (.inl rfl) pe_int)) pss_nil)
      (Evl.pss_cut (ps_if (pt_cmpR op_le (pe_op op_add (pe_op op_add (pe_callB call_len_str (by rfl) T.b_len (by decide +kernel) (pa_cons (pv 6) pa_nil)) (pv 12)) pe_int) pe_int (nomark _)) (pss_cons (ps_set (i := 6) sc_law.nd rfl (.inl rfl) (pe_op op_add_str (pv 6) (pe_op op_mul_str pe_str (pv 12))))
      (pss_one (ps_if (pt_val (pv 3)) (pss_one (ps_set (i := 6) sc_law.nd rfl (.inl rfl) (pe_op op_add_str (pv 6) (C8.pe_c c__law_comment hr (by decide) (by rfl) (pa_cons (pv 1) (pa_cons (pe_op op_sub pe_int (pe_callB call_len_str (by rfl) T.b_len (by decide +kernel) (pa_cons (pv 6) pa_nil))) pa_nil)))))) pss_nil))) pss_nil)
      (pss_one (ps_ret (C8.pe_c c__law_alike hr (by decide) (by rfl) (pa_cons (C8.pe_c c_tokens hr (by decide) (by rfl) (pa_cons (pv 6) (pa_cons (pv 4) pa_nil))) (pa_cons (pv 7) pa_nil)))))))))))))))))), ?_⟩
  rw [show (L2.start ["script", "bag", "short", "noted", "line", "many", "text", "due", "last", "k", "word", "gap", "ends"] [.ref a] : L2.St) = [some (.ref a), none, none, none, none, none, none, none, none, none, none, none, none] from rfl]
  try simp only [WL.cxK]
  walk_at "go"
  refine ⟨a, ns, rfl, hS, hl, fun c b H1 _ _ s1 B1 => ?_⟩
  walk_at "go"
  refine g_draw B1 (by omega) (by decide) (by decide) fun d H2 d0 d1 k2 B2 => ?_
  walk_at "go"
  generalize decide (V.int d = V.int 0) = sh
  refine g_draw B2 (by omega) (by decide) (by decide) fun d2 H3 _ _ k3 B3 => ?_
  walk_at "go"
  generalize decide (V.int d2 = V.int 0) = noted
  refine g_draw B3 (by omega) (by decide) (by decide) fun ln H4 _ _ k4 B4 => ?_
  walk_at "go"
  generalize (1 : Int) + ln = line
  refine g_draw B4 (by omega) (by decide) (by decide) fun mn H5 m0 m1 k5 B5 => ?_
  walk_at "go"
  refine ⟨fun σ' H' => ∃ n : Nat, σ' = [some (.ref a), some (.ref b), some (.bl sh), some (.bl noted), some (.int line), some (.int n), none, none, none, none, none, none, none] ∧ n ≤ 40 ∧ H' = H5, ?_, fun σ' H' hm => ?_⟩
  · obtain ⟨n, rfl⟩ : ∃ n : Nat, mn = n := ⟨mn.toNat, by omega⟩
    walk_at "go"
    refine g_iteB (fun e => ?_) (fun e => ?_)
    · walk_at "go"
      exact ⟨36 + n / 3, by rw [show (36 : Int) + (n : Int) / 3 = ((36 + n / 3 : Nat) : Int) by omega], by omega, rfl⟩
    · walk_at "go"
      exact ⟨n, rfl, by omega, rfl⟩
  obtain ⟨n, rfl, hn, rfl⟩ := hm
  walk_at "go"
  refine g_draw B5 (by omega) (by decide) (by decide) fun ld H6 l0 l1 k6 B6 => ?_
  obtain ⟨lead, rfl⟩ : ∃ n : Nat, ld = n := ⟨ld.toNat, by omega⟩
  refine g_mulS (by decide +kernel) (by omega) (by omega) ?_
  rw [mul_sp]
  walk_at "go"
  refine ⟨by decide, fun p np => ?_⟩
  walk_at "go"
  have npb := (B6.nb np).1
  have npc := (B6.nb np).2
  refine ⟨fun σ' H' => ∃ (ps : List Pc) (j : Nat) (y z u v : Option V), σ' = [some (.ref a), some (.ref b), some (.bl sh), some (.bl noted), some (.int line), some (.int n), some (.str (S (List.replicate lead 32 ++ ptext ps))), some (.ref p), some (.str (S (lastw [] ps))), y, z, u, v] ∧ okp [] ps ∧ ps.length ≤ 40 ∧ lead + (ptext ps).length ≤ 100 ∧ Bag c b j H' ∧ j ≤ 2000 ∧ Due H' p (ptoks lead ps), ?_, fun σ' H' hm => ?_⟩
  · walk_at "go"
    refine f_rng1 (z := (n : Int)) (by omega) (by omega) (fun i σ' H' => ∃ (ps : List Pc) (y z u v : Option V), σ' = [some (.ref a), some (.ref b), some (.bl sh), some (.bl noted), some (.int line), some (.int n), some (.str (S (List.replicate lead 32 ++ ptext ps))), some (.ref p), some (.str (S (lastw [] ps))), y, z, u, v] ∧ okp [] ps ∧ ps.length = i ∧ lead + (ptext ps).length ≤ 100 ∧ Bag c b (10 + 40 * i) H' ∧ Due H' p (ptoks lead ps))
      ⟨[], none, none, none, none, by simp [ptext, lastw]; rfl, trivial, rfl, by simp [ptext]; omega, (B6.new np).mono (by omega), [], upd_same, rfl, fun _ h => by cases h⟩ (fun i σ' H' hi hP => ?_) (fun σ' H' hP => ?_)
    · obtain ⟨ps, y, z, u, v, rfl, hok, hpl, htl, B7, hdue⟩ := hP
      have hin : i < n := by omega
      have hsz : (S (List.replicate lead 32 ++ ptext ps)).length ≤ sizeLine := by rw [S_len, List.length_append, List.length_replicate]; exact sz_le (by omega)
      have hlast : (lastw [] ps).length ≤ 16 := by
        rcases last_good hok with ⟨k, h⟩ | ⟨_, h⟩
        · obtain ⟨_, _, _, _, _, h⟩ := good_head h; exact h
        · rw [h]; exact Nat.zero_le _
      walk_at "go"
      refine ⟨b, c, _, sh, rfl, B7, by omega, fun kk w wp H8 hg k8 B8 nwp hwp => ?_⟩
      obtain ⟨hd, tl, ew, h32, h95, hw16⟩ := good_head hg
      have hd8 := hdue.kp B7 npb k8
      have nwb : wp ≠ b := B8.nt hwp
      walk_at "go"
      refine ⟨sz_le (n := 4) (by decide), fun gl ngl => ?_⟩
      have s9 := same_new (o := .lst [V.int 0, V.int 0, V.int 1, V.int 2]) ngl
      have B9 := B8.new (o := .lst [V.int 0, V.int 0, V.int 1, V.int 2]) ngl
      have hwp9 := s9 _ _ hwp
      have hgl : (upd H8 gl (.lst [V.int 0, V.int 0, V.int 1, V.int 2])) gl = some (.lst [V.int 0, V.int 0, V.int 1, V.int 2]) := upd_same
      have hd9 := hd8.same s9
      generalize upd H8 gl (.lst [V.int 0, V.int 0, V.int 1, V.int 2]) = H9 at *
      have nglb : gl ≠ b := (B8.nb ngl).1
      walk_at "go"
      refine g_draw B9 (by omega) (by decide) (by decide) fun g H10 g0 g1 k10 B10 => ?_
      have hd10 := hd9.kp B9 npb k10
      have hwp10 := k10 _ _ hwp9 nwb
      have hgl10 := k10 _ _ hgl nglb
      obtain ⟨gv, hgv, hg2⟩ : ∃ gv : Nat, atI [V.int 0, V.int 0, V.int 1, V.int 2] g = some (.int (gv : Int)) ∧ gv ≤ 2 := by
        have : g = 0 ∨ g = 1 ∨ g = 2 ∨ g = 3 := by omega
        rcases this with rfl | rfl | rfl | rfl
        · exact ⟨0, rfl, by decide⟩
        · exact ⟨0, rfl, by decide⟩
        · exact ⟨1, rfl, by decide⟩
        · exact ⟨2, rfl, by decide⟩
      refine g_ixL (SqL.of hgl10) hgv ?_
      walk_at "go"
      refine ⟨fun σ' H' => ∃ g : Nat, σ' = [some (.ref a), some (.ref b), some (.bl sh), some (.bl noted), some (.int line), some (.int n), some (.str (S (List.replicate lead 32 ++ ptext ps))), some (.ref p), some (.str (S (lastw [] ps))), some (.int i), some (.ref wp), some (.int g), v] ∧ g ≤ 2 ∧ (g = 0 → sep (lastw [] ps) hd) ∧ Same H10 H', ?_, fun σ' H' hm => ?_⟩
      · walk_at "go"
        refine g_iteI (fun e => ?_) (fun e => ?_)
        · walk_at "go"
          subst ew
          refine ⟨_, tl, hd, rfl, by omega, by simp at hw16; omega, fun H11 s11 => ?_⟩
          walk_at "go"
          refine g_iteB (fun e2 => ?_) (fun e2 => ?_)
          · walk_at "go"
            exact ⟨1, rfl, by decide, (fun h => by cases h), s11⟩
          · walk_at "go"
            exact ⟨gv, rfl, hg2, fun _ => sep_glued e2 h95, s11⟩
        · walk_at "go"
          exact ⟨gv, rfl, hg2, fun h => absurd (by rw [h]; rfl) e, Same.refl _⟩
      obtain ⟨g', rfl, hg2', hsep, s11⟩ := hm
      have hwp11 := s11 _ _ hwp10
      have hd11 := hd10.same s11
      have B11 := B10.same s11
      have hsw : (S w).length ≤ sizeLine := by rw [S_len]; exact sz_le (by omega)
      walk_at "go"
      rw [S_len, S_len, List.length_append, List.length_replicate]
      refine g_ite (fun e => ?_) (fun e => ?_)
      · walk_at "go"
        exact ⟨ps, _, _, _, _, _, rfl, hok, by omega, htl, B11, by omega, hd11⟩
      walk_at "go"
      refine g_mulS (by decide +kernel) (by omega) (by omega) ?_
      rw [mul_sp]
      refine g_addS (by rw [S_len, S_len]; exact sz_le (by simp; omega)) ?_
      rw [S_cat]
      have hsz2 : (S (List.replicate lead 32 ++ ptext ps ++ List.replicate g' 32)).length ≤ sizeLine := by rw [S_len]; exact sz_le (by simp; omega)
      obtain ⟨rw', h1, h2, h3⟩ := hd11
      walk_at "go"
      refine ⟨sz_le (n := 3) (by decide), fun tp ntp => ?_⟩
      have npt : tp ≠ p := (ne_of_none h1 ntp).symm
      have hrl : rw'.length = i := by
        have := congrArg List.length h2
        rw [List.length_map, ptoks_len] at this; omega
      have hwt : wp ≠ tp := ne_of_none hwp11 ntp
      have hwpp : wp ≠ p := fun h => by rw [h, h1] at hwp11; cases hwp11
      walk_at "go"
      refine g_app (by rw [upd_ne (ne_of_none h1 ntp)]; exact h1) (sz_lt (by rw [List.length_map]; omega)) ?_
      walk_at "go"
      refine g_addS (by rw [S_len, S_len]; exact sz_le (by simp; omega)) ?_
      rw [S_cat]
      walk_at "go"
      walk_at "go"
      refine ⟨ps ++ [⟨g', kk, w⟩], some (.int i), some (.ref wp), some (.int g'), v, ?_, okp_snoc (p := ⟨g', kk, w⟩) hg hok (fun h c r hc => by
          have hc : w = c :: r := hc
          rw [ew] at hc
          rw [← (List.cons.inj hc).1]; exact hsep h), by simp [hpl], ?_, ((B11.new ntp).put npb npc).mono (by omega), rw' ++ [(tp, (kk, w, lead + (ptext ps).length + g' + 1))], ?_, ?_, ?_⟩
      · rw [ptext_snoc, lastw_snoc, List.append_assoc, List.append_assoc, List.append_assoc]
      · rw [ptext_snoc]; simp; omega
      · rw [upd_same, List.map_append]; rfl
      · rw [List.map_append, h2, ptoks_snoc]; rfl
      · intro u hu
        rcases List.mem_append.mp hu with hu | hu
        · obtain ⟨h5, h6⟩ := h3 u hu
          exact ⟨by rw [upd_ne h6, upd_ne (ne_of_none h5 ntp)]; exact h5, h6⟩
        · rw [List.mem_singleton.mp hu]
          refine ⟨?_, npt⟩
          rw [upd_ne npt, upd_same, S_len]
          simp [tv]; omega
    · obtain ⟨ps, y, z, u, v, rfl, hok, hpl, htl, B7, hdue⟩ := hP
      exact ⟨ps, _, y, z, u, v, rfl, hok, by omega, htl, B7, by omega, hdue⟩
  obtain ⟨ps, j, y, z, u, v, rfl, hok, hpl, htl, B7, hj, hdue⟩ := hm
  have hsz : (S (List.replicate lead 32 ++ ptext ps)).length ≤ sizeLine := by rw [S_len, List.length_append, List.length_replicate]; exact sz_le (by omega)
  walk_at "go"
  refine g_draw B7 (by omega) (by decide) (by decide) fun en H8 e0 e1 k8 B8 => ?_
  obtain ⟨e, rfl⟩ : ∃ n : Nat, en = n := ⟨en.toNat, by omega⟩
  have hd8 := hdue.kp B7 npb k8
  walk_at "go"
  refine ⟨fun σ' H' => ∃ e : Nat, σ' = [some (.ref a), some (.ref b), some (.bl sh), some (.bl noted), some (.int line), some (.int n), some (.str (S (List.replicate lead 32 ++ ptext ps))), some (.ref p), some (.str (S (lastw [] ps))), y, z, u, some (.int e)] ∧ e ≤ 2 ∧ (e = 0 → lastw [] ps ≠ [45]) ∧ H' = H8, ?_, fun σ' H' hm => ?_⟩
  · walk_at "go"
    refine g_iteI (fun h => ?_) (fun h => ?_)
    · walk_at "go"
      refine g_ite (fun h2 => ?_) (fun h2 => ?_)
      · walk_at "go"
        exact ⟨1, rfl, by decide, (fun h => by cases h), rfl⟩
      · walk_at "go"
        exact ⟨e, rfl, by omega, fun _ h3 => h2 (by rw [h3]; rfl), rfl⟩
    · walk_at "go"
      exact ⟨e, rfl, by omega, fun h3 => absurd (by rw [h3]; rfl) h, rfl⟩
  obtain ⟨e, rfl, he2, hel, rfl⟩ := hm
  walk_at "go"
  have sepT : ∀ (r : List Nat) c, (List.replicate e 32 ++ r).head? = some c → (∀ c, r.head? = some c → c = 45) → sep (lastw [] ps) c := fun r c hc hr => by
    rcases last_good hok with ⟨k, hg⟩ | ⟨_, h⟩
    · cases e with
      | zero =>
        have : c = 45 := hr c hc
        subst this
        exact sep_45 hg (hel rfl)
      | succ m =>
        rw [List.replicate_succ] at hc
        have : 32 = c := Option.some.inj hc
        subst this
        exact sep_32 hg
    · rw [h]; trivial
  refine ⟨fun σ' H' => ∃ tail : List Nat, σ' = [some (.ref a), some (.ref b), some (.bl sh), some (.bl noted), some (.int line), some (.int n), some (.str (S (List.replicate lead 32 ++ ptext ps ++ tail))), some (.ref p), some (.str (S (lastw [] ps))), y, z, u, some (.int e)] ∧ tail.length ≤ 200 ∧ (∀ m, Lex tail m []) ∧ (∀ c, tail.head? = some c → sep (lastw [] ps) c) ∧ Due H' p (ptoks lead ps), ?_, fun σ' H' hm => ?_⟩
  · walk_at "go"
    rw [S_len, List.length_append, List.length_replicate]
    refine g_ite (fun h => ?_) (fun h => ?_)
    · walk_at "go"
      refine g_mulS (by decide +kernel) (by omega) (by omega) ?_
      rw [mul_sp]
      refine g_addS (by rw [S_len, S_len]; exact sz_le (by simp; omega)) ?_
      rw [S_cat]
      have hsz2 : (S (List.replicate lead 32 ++ ptext ps ++ List.replicate e 32)).length ≤ sizeLine := by rw [S_len]; exact sz_le (by simp; omega)
      walk_at "go"
      refine g_iteB (fun h2 => ?_) (fun h2 => ?_)
      · walk_at "go"
        refine ⟨b, c, _, _, rfl, B8, by omega, fun l H9 hl9 k9 B9 => ?_⟩
        refine g_addS (by rw [S_len, S_len]; exact sz_le (by simp; omega)) ?_
        rw [S_cat]
        walk_at "go"
        refine ⟨List.replicate e 32 ++ 45 :: 45 :: l, by rw [← List.append_assoc], by simp; omega, fun m => lex_sp (.rem _ _), fun c hc => sepT _ c hc fun c hc => (Option.some.inj hc).symm, hd8.kp B8 npb k9⟩
      · walk_at "go"
        refine ⟨List.replicate e 32, rfl, by simp; omega, fun m => ?_, fun c hc => sepT [] c (by rw [List.append_nil]; exact hc) (fun c hc => by cases hc), hd8⟩
        have := lex_sp (g := e) (r := []) (n := m) (.nil _)
        rw [List.append_nil] at this; exact this
    · walk_at "go"
      exact ⟨[], by rw [List.append_nil], by simp, fun m => .nil _, (fun c hc => by cases hc), hd8⟩
  obtain ⟨tail, rfl, htl2, hlex, hseps, hd9⟩ := hm
  walk_at "go"
  refine ⟨_, line, ptoks lead ps, rfl, ?_, by simp; omega, by rw [ptoks_len]; exact hpl, fun ap H10 nap s10 hT => ?_⟩
  · rw [List.append_assoc]
    have := lex_all (n := lead) (tail := tail) hok (hlex _) hseps
    exact lex_sp (by rw [Nat.zero_add]; exact this)
  walk_at "go"
  have hd10 := hd9.same s10
  refine ⟨ap, p, ptoks lead ps, rfl, hT, ?_, by rw [ptoks_len]; omega, q _⟩
  obtain ⟨r1, r2, r3, r4⟩ := hd10
  exact ⟨r1, r2, r3, fun r hr => (r4 r hr).1⟩
end
end K00
set_option Elab.async false
set_option linter.all false
set_option maxRecDepth 100000
set_option maxHeartbeats 4000000
namespace K00
open PySem PySem.Spec PyProof.Rows L2 WL SX
theorem all_mk {l : PySem.W.OpenLaw} {w : World} {K : PySem.W.Frag} {h : Heap} {mg : Str → Option Value} {fa f0 f1 f2 f3 f4 f5 f6 f7 f8 f9 f10 f11 f12 f13 f14 f15 : Addr} (X : K.In h) (G : h.Ns mainGlobals mg) (hfa : mg "law" = some (.ref fa))
    {od0 an0 od1 an1 od2 an2 od3 an3 od4 an4 od5 an5 od6 an6 od7 an7 od8 an8 od9 an9 od10 an10 od11 an11 od12 an12 od13 an13 od14 an14 od15 an15 : Option Addr} {sl0 sl1 sl2 sl3 sl4 sl5 sl6 sl7 sl8 sl9 sl10 sl11 sl12 sl13 sl14 sl15 : Array (Option Value)} {oc0 kV0 dc0 pm0 cd0 ct0 oc1 kV1 dc1 pm1 cd1 ct1 oc2 kV2 dc2 pm2 cd2 ct2 oc3 kV3 dc3 pm3 cd3 ct3 oc4 kV4 dc4 pm4 cd4 ct4 oc5 kV5 dc5 pm5 cd5 ct5 oc6 kV6 dc6 pm6 cd6 ct6 oc7 kV7 dc7 pm7 cd7 ct7 oc8 kV8 dc8 pm8 cd8 ct8 oc9 kV9 dc9 pm9 cd9 ct9 oc10 kV10 dc10 pm10 cd10 ct10 oc11 kV11 dc11 pm11 cd11 ct11 oc12 kV12 dc12 pm12 cd12 ct12 oc13 kV13 dc13 pm13 cd13 ct13 oc14 kV14 dc14 pm14 cd14 ct14 oc15 kV15 dc15 pm15 cd15 ct15 : Value}
    (a0 : PySem.W.nsIn K mainGlobals "tokens" = some (some (.ref f0))) (l0 : K.lookup f0 = some ⟨oc0, od0, .func (PySem.W.fnOf "tokens" "tokens" (defArgs s_tokens) (defBody s_tokens) (defScope s_tokens) .none kV0 dc0 pm0 an0 cd0 ct0), sl0⟩) (c0 : PySem.W.codeIn K cd0 "tokens" = true) (k0 : PySem.W.keepIn K (.ref f0) = true)
    (a1 : PySem.W.nsIn K mainGlobals "_end_of_token" = some (some (.ref f1))) (l1 : K.lookup f1 = some ⟨oc1, od1, .func (PySem.W.fnOf "_end_of_token" "_end_of_token" (defArgs s__end_of_token) (defBody s__end_of_token) (defScope s__end_of_token) .none kV1 dc1 pm1 an1 cd1 ct1), sl1⟩) (c1 : PySem.W.codeIn K cd1 "_end_of_token" = true) (k1 : PySem.W.keepIn K (.ref f1) = true)
    (a2 : PySem.W.nsIn K mainGlobals "_end_of_run" = some (some (.ref f2))) (l2 : K.lookup f2 = some ⟨oc2, od2, .func (PySem.W.fnOf "_end_of_run" "_end_of_run" (defArgs s__end_of_run) (defBody s__end_of_run) (defScope s__end_of_run) .none kV2 dc2 pm2 an2 cd2 ct2), sl2⟩) (c2 : PySem.W.codeIn K cd2 "_end_of_run" = true) (k2 : PySem.W.keepIn K (.ref f2) = true)
    (a3 : PySem.W.nsIn K mainGlobals "_kind_of" = some (some (.ref f3))) (l3 : K.lookup f3 = some ⟨oc3, od3, .func (PySem.W.fnOf "_kind_of" "_kind_of" (defArgs s__kind_of) (defBody s__kind_of) (defScope s__kind_of) .none kV3 dc3 pm3 an3 cd3 ct3), sl3⟩) (c3 : PySem.W.codeIn K cd3 "_kind_of" = true) (k3 : PySem.W.keepIn K (.ref f3) = true)
    (a4 : PySem.W.nsIn K mainGlobals "_is_number" = some (some (.ref f4))) (l4 : K.lookup f4 = some ⟨oc4, od4, .func (PySem.W.fnOf "_is_number" "_is_number" (defArgs s__is_number) (defBody s__is_number) (defScope s__is_number) .none kV4 dc4 pm4 an4 cd4 ct4), sl4⟩) (c4 : PySem.W.codeIn K cd4 "_is_number" = true) (k4 : PySem.W.keepIn K (.ref f4) = true)
    (a5 : PySem.W.nsIn K mainGlobals "_law_bag" = some (some (.ref f5))) (l5 : K.lookup f5 = some ⟨oc5, od5, .func (PySem.W.fnOf "_law_bag" "_law_bag" (defArgs s__law_bag) (defBody s__law_bag) (defScope s__law_bag) .none kV5 dc5 pm5 an5 cd5 ct5), sl5⟩) (c5 : PySem.W.codeIn K cd5 "_law_bag" = true) (k5 : PySem.W.keepIn K (.ref f5) = true)
    (a6 : PySem.W.nsIn K mainGlobals "_law_draw" = some (some (.ref f6))) (l6 : K.lookup f6 = some ⟨oc6, od6, .func (PySem.W.fnOf "_law_draw" "_law_draw" (defArgs s__law_draw) (defBody s__law_draw) (defScope s__law_draw) .none kV6 dc6 pm6 an6 cd6 ct6), sl6⟩) (c6 : PySem.W.codeIn K cd6 "_law_draw" = true) (k6 : PySem.W.keepIn K (.ref f6) = true)
    (a7 : PySem.W.nsIn K mainGlobals "_law_keywords" = some (some (.ref f7))) (l7 : K.lookup f7 = some ⟨oc7, od7, .func (PySem.W.fnOf "_law_keywords" "_law_keywords" (defArgs s__law_keywords) (defBody s__law_keywords) (defScope s__law_keywords) .none kV7 dc7 pm7 an7 cd7 ct7), sl7⟩) (c7 : PySem.W.codeIn K cd7 "_law_keywords" = true) (k7 : PySem.W.keepIn K (.ref f7) = true)
    (a8 : PySem.W.nsIn K mainGlobals "_law_symbols" = some (some (.ref f8))) (l8 : K.lookup f8 = some ⟨oc8, od8, .func (PySem.W.fnOf "_law_symbols" "_law_symbols" (defArgs s__law_symbols) (defBody s__law_symbols) (defScope s__law_symbols) .none kV8 dc8 pm8 an8 cd8 ct8), sl8⟩) (c8 : PySem.W.codeIn K cd8 "_law_symbols" = true) (k8 : PySem.W.keepIn K (.ref f8) = true)
    (a9 : PySem.W.nsIn K mainGlobals "_law_name" = some (some (.ref f9))) (l9 : K.lookup f9 = some ⟨oc9, od9, .func (PySem.W.fnOf "_law_name" "_law_name" (defArgs s__law_name) (defBody s__law_name) (defScope s__law_name) .none kV9 dc9 pm9 an9 cd9 ct9), sl9⟩) (c9 : PySem.W.codeIn K cd9 "_law_name" = true) (k9 : PySem.W.keepIn K (.ref f9) = true)
    (a10 : PySem.W.nsIn K mainGlobals "_law_number" = some (some (.ref f10))) (l10 : K.lookup f10 = some ⟨oc10, od10, .func (PySem.W.fnOf "_law_number" "_law_number" (defArgs s__law_number) (defBody s__law_number) (defScope s__law_number) .none kV10 dc10 pm10 an10 cd10 ct10), sl10⟩) (c10 : PySem.W.codeIn K cd10 "_law_number" = true) (k10 : PySem.W.keepIn K (.ref f10) = true)
    (a11 : PySem.W.nsIn K mainGlobals "_law_word" = some (some (.ref f11))) (l11 : K.lookup f11 = some ⟨oc11, od11, .func (PySem.W.fnOf "_law_word" "_law_word" (defArgs s__law_word) (defBody s__law_word) (defScope s__law_word) .none kV11 dc11 pm11 an11 cd11 ct11), sl11⟩) (c11 : PySem.W.codeIn K cd11 "_law_word" = true) (k11 : PySem.W.keepIn K (.ref f11) = true)
    (a12 : PySem.W.nsIn K mainGlobals "_law_glued" = some (some (.ref f12))) (l12 : K.lookup f12 = some ⟨oc12, od12, .func (PySem.W.fnOf "_law_glued" "_law_glued" (defArgs s__law_glued) (defBody s__law_glued) (defScope s__law_glued) .none kV12 dc12 pm12 an12 cd12 ct12), sl12⟩) (c12 : PySem.W.codeIn K cd12 "_law_glued" = true) (k12 : PySem.W.keepIn K (.ref f12) = true)
    (a13 : PySem.W.nsIn K mainGlobals "_law_comment" = some (some (.ref f13))) (l13 : K.lookup f13 = some ⟨oc13, od13, .func (PySem.W.fnOf "_law_comment" "_law_comment" (defArgs s__law_comment) (defBody s__law_comment) (defScope s__law_comment) .none kV13 dc13 pm13 an13 cd13 ct13), sl13⟩) (c13 : PySem.W.codeIn K cd13 "_law_comment" = true) (k13 : PySem.W.keepIn K (.ref f13) = true)
    (a14 : PySem.W.nsIn K mainGlobals "_law_alike" = some (some (.ref f14))) (l14 : K.lookup f14 = some ⟨oc14, od14, .func (PySem.W.fnOf "_law_alike" "_law_alike" (defArgs s__law_alike) (defBody s__law_alike) (defScope s__law_alike) .none kV14 dc14 pm14 an14 cd14 ct14), sl14⟩) (c14 : PySem.W.codeIn K cd14 "_law_alike" = true) (k14 : PySem.W.keepIn K (.ref f14) = true)
    (a15 : PySem.W.nsIn K mainGlobals "law" = some (some (.ref f15))) (l15 : K.lookup f15 = some ⟨oc15, od15, .func (PySem.W.fnOf "law" "law" (defArgs s_law) (defBody s_law) (defScope s_law) .none kV15 dc15 pm15 an15 cd15 ct15), sl15⟩) (c15 : PySem.W.codeIn K cd15 "law" = true) (k15 : PySem.W.keepIn K (.ref f15) = true)
    (z_bool : PySem.W.nsIn K mainGlobals "bool" = some none)
    (z_int : PySem.W.nsIn K mainGlobals "int" = some none)
    (z_isinstance : PySem.W.nsIn K mainGlobals "isinstance" = some none)
    (z_len : PySem.W.nsIn K mainGlobals "len" = some none)
    (z_list : PySem.W.nsIn K mainGlobals "list" = some none)
    (z_range : PySem.W.nsIn K mainGlobals "range" = some none)
    (z_str : PySem.W.nsIn K mainGlobals "str" = some none)
    (z_tuple : PySem.W.nsIn K mainGlobals "tuple" = some none)
    {gd0 : Addr} {gdd0 : Option Addr} {gn0 : Nat} {gsl0 : Array (Option Value)} {gt0_0 gt0_1 gt0_2 gt0_3 gt0_4 gt0_5 gt0_6 gt0_7 gt0_8 gt0_9 gt0_10 gt0_11 gt0_12 gt0_13 gt0_14 gt0_15 gt0_16 gt0_17 gt0_18 gt0_19 gt0_20 gt0_21 : Tok} (gg_KEYWORDS : PySem.W.nsIn K mainGlobals "KEYWORDS" = some (some (.ref gd0))) (gl_KEYWORDS : K.lookup gd0 = some ⟨.type "tuple", gdd0, .seq #[.str (Str.ofString "module") gt0_0, .str (Str.ofString "end") gt0_1, .str (Str.ofString "in") gt0_2, .str (Str.ofString "out") gt0_3, .str (Str.ofString "wire") gt0_4, .str (Str.ofString "reg") gt0_5, .str (Str.ofString "mem") gt0_6, .str (Str.ofString "use") gt0_7, .str (Str.ofString "as") gt0_8, .str (Str.ofString "each") gt0_9, .str (Str.ofString "from") gt0_10, .str (Str.ofString "to") gt0_11, .str (Str.ofString "when") gt0_12, .str (Str.ofString "always") gt0_13, .str (Str.ofString "if") gt0_14, .str (Str.ofString "then") gt0_15, .str (Str.ofString "else") gt0_16, .str (Str.ofString "within") gt0_17, .str (Str.ofString "all") gt0_18, .str (Str.ofString "any") gt0_19, .str (Str.ofString "odd") gt0_20, .str (Str.ofString "promise") gt0_21] gn0, gsl0⟩)
    {gt_LETTERS : Tok} (gg_LETTERS : PySem.W.nsIn K mainGlobals "LETTERS" = some (some (.str (Str.ofString "abcdefghijklmnopqrstuvwxyz") gt_LETTERS)))
    {gt_DIGITS : Tok} (gg_DIGITS : PySem.W.nsIn K mainGlobals "DIGITS" = some (some (.str (Str.ofString "0123456789") gt_DIGITS)))
    {gt_WORD_SIGNS : Tok} (gg_WORD_SIGNS : PySem.W.nsIn K mainGlobals "WORD_SIGNS" = some (some (.str (Str.ofString "abcdefghijklmnopqrstuvwxyz0123456789_") gt_WORD_SIGNS)))
    {gd1 : Addr} {gdd1 : Option Addr} {gn1 : Nat} {gsl1 : Array (Option Value)} {gt1_0 gt1_1 gt1_2 gt1_3 gt1_4 gt1_5 : Tok} (gg_DOUBLE_SYMBOLS : PySem.W.nsIn K mainGlobals "DOUBLE_SYMBOLS" = some (some (.ref gd1))) (gl_DOUBLE_SYMBOLS : K.lookup gd1 = some ⟨.type "tuple", gdd1, .seq #[.str (Str.ofString "<=") gt1_0, .str (Str.ofString "==") gt1_1, .str (Str.ofString "!=") gt1_2, .str (Str.ofString ">=") gt1_3, .str (Str.ofString "<<") gt1_4, .str (Str.ofString ">>") gt1_5] gn1, gsl1⟩)
    {gt_SINGLE_SYMBOLS : Tok} (gg_SINGLE_SYMBOLS : PySem.W.nsIn K mainGlobals "SINGLE_SYMBOLS" = some (some (.str (Str.ofString "()[]{},:.=<+-*&|^~#@") gt_SINGLE_SYMBOLS)))
    {gt_MOST_TOKENS : Tok} (gg_MOST_TOKENS : PySem.W.nsIn K mainGlobals "MOST_TOKENS" = some (some (.int (40) gt_MOST_TOKENS)))
    {gt_LONGEST_NAME : Tok} (gg_LONGEST_NAME : PySem.W.nsIn K mainGlobals "LONGEST_NAME" = some (some (.int (16) gt_LONGEST_NAME)))
    {gt_LONGEST_NUMBER : Tok} (gg_LONGEST_NUMBER : PySem.W.nsIn K mainGlobals "LONGEST_NUMBER" = some (some (.int (5) gt_LONGEST_NUMBER)))
    {gt_GREATEST_NUMBER : Tok} (gg_GREATEST_NUMBER : PySem.W.nsIn K mainGlobals "GREATEST_NUMBER" = some (some (.int (65535) gt_GREATEST_NUMBER)))
    : ∃ fd : FuncData, (∀ (s : Shared) (v : Value), BindsTo s fd ⟨[v], []⟩ [("script", v)]) ∧ ∀ base : Heap, K.In base → base.Ns mainGlobals mg → FnOk l.prog w K mg base CX0 4 fa fd ["script"] (spLaw K) := by
  have e := hfa.symm.trans (PySem.W.mg_of X G a15)
  cases e
  have T : Txt K mg (fun n => match n with | 0 => gd0 | 1 => gd1 | _ => 0) := ⟨PySem.W.mg_none_of X G z_bool, PySem.W.mg_none_of X G z_int, PySem.W.mg_none_of X G z_isinstance, PySem.W.mg_none_of X G z_len, PySem.W.mg_none_of X G z_list, PySem.W.mg_none_of X G z_range, PySem.W.mg_none_of X G z_str, PySem.W.mg_none_of X G z_tuple, ⟨_, PySem.W.mg_of X G gg_KEYWORDS, rfl⟩, fun H => .inr ⟨_, _, _, gl_KEYWORDS, rfl, rfl, sz_le (n := 22) (by decide), .cons ⟨_, rfl⟩ (.cons ⟨_, rfl⟩ (.cons ⟨_, rfl⟩ (.cons ⟨_, rfl⟩ (.cons ⟨_, rfl⟩ (.cons ⟨_, rfl⟩ (.cons ⟨_, rfl⟩ (.cons ⟨_, rfl⟩ (.cons ⟨_, rfl⟩ (.cons ⟨_, rfl⟩ (.cons ⟨_, rfl⟩ (.cons ⟨_, rfl⟩ (.cons ⟨_, rfl⟩ (.cons ⟨_, rfl⟩ (.cons ⟨_, rfl⟩ (.cons ⟨_, rfl⟩ (.cons ⟨_, rfl⟩ (.cons ⟨_, rfl⟩ (.cons ⟨_, rfl⟩ (.cons ⟨_, rfl⟩ (.cons ⟨_, rfl⟩ (.cons ⟨_, rfl⟩ (.nil))))))))))))))))))))))⟩, ⟨_, PySem.W.mg_of X G gg_LETTERS, ⟨_, rfl⟩⟩, ⟨_, PySem.W.mg_of X G gg_DIGITS, ⟨_, rfl⟩⟩, ⟨_, PySem.W.mg_of X G gg_WORD_SIGNS, ⟨_, rfl⟩⟩, ⟨_, PySem.W.mg_of X G gg_DOUBLE_SYMBOLS, rfl⟩, fun H => .inr ⟨_, _, _, gl_DOUBLE_SYMBOLS, rfl, rfl, sz_le (n := 6) (by decide), .cons ⟨_, rfl⟩ (.cons ⟨_, rfl⟩ (.cons ⟨_, rfl⟩ (.cons ⟨_, rfl⟩ (.cons ⟨_, rfl⟩ (.cons ⟨_, rfl⟩ (.nil))))))⟩, ⟨_, PySem.W.mg_of X G gg_SINGLE_SYMBOLS, ⟨_, rfl⟩⟩, ⟨_, PySem.W.mg_of X G gg_MOST_TOKENS, ⟨_, rfl⟩⟩, ⟨_, PySem.W.mg_of X G gg_LONGEST_NAME, ⟨_, rfl⟩⟩, ⟨_, PySem.W.mg_of X G gg_LONGEST_NUMBER, ⟨_, rfl⟩⟩, ⟨_, PySem.W.mg_of X G gg_GREATEST_NUMBER, ⟨_, rfl⟩⟩⟩
  have F0 := fun_mk (st := s_tokens) l0 c0 k0
  have F1 := fun_mk (st := s__end_of_token) l1 c1 k1
  have F2 := fun_mk (st := s__end_of_run) l2 c2 k2
  have F3 := fun_mk (st := s__kind_of) l3 c3 k3
  have F4 := fun_mk (st := s__is_number) l4 c4 k4
  have F5 := fun_mk (st := s__law_bag) l5 c5 k5
  have F6 := fun_mk (st := s__law_draw) l6 c6 k6
  have F7 := fun_mk (st := s__law_keywords) l7 c7 k7
  have F8 := fun_mk (st := s__law_symbols) l8 c8 k8
  have F9 := fun_mk (st := s__law_name) l9 c9 k9
  have F10 := fun_mk (st := s__law_number) l10 c10 k10
  have F11 := fun_mk (st := s__law_word) l11 c11 k11
  have F12 := fun_mk (st := s__law_glued) l12 c12 k12
  have F13 := fun_mk (st := s__law_comment) l13 c13 k13
  have F14 := fun_mk (st := s__law_alike) l14 c14 k14
  have F15 := fun_mk (st := s_law) l15 c15 k15
  have b0 := F0.binds (ps := ["text", "line"]) fun _ _ _ _ _ _ us hl => match us, hl with | [_, _], _ => rfl
  have b1 := F1.binds (ps := ["text", "at"]) fun _ _ _ _ _ _ us hl => match us, hl with | [_, _], _ => rfl
  have b2 := F2.binds (ps := ["text", "at", "signs"]) fun _ _ _ _ _ _ us hl => match us, hl with | [_, _, _], _ => rfl
  have b3 := F3.binds (ps := ["word"]) fun _ _ _ _ _ _ us hl => match us, hl with | [_], _ => rfl
  have b4 := F4.binds (ps := ["digits"]) fun _ _ _ _ _ _ us hl => match us, hl with | [_], _ => rfl
  have b5 := F5.binds (ps := ["script"]) fun _ _ _ _ _ _ us hl => match us, hl with | [_], _ => rfl
  have b6 := F6.binds (ps := ["bag", "size"]) fun _ _ _ _ _ _ us hl => match us, hl with | [_, _], _ => rfl
  have b7 := F7.binds (ps := []) fun _ _ _ _ _ _ us hl => match us, hl with | [], _ => rfl
  have b8 := F8.binds (ps := []) fun _ _ _ _ _ _ us hl => match us, hl with | [], _ => rfl
  have b9 := F9.binds (ps := ["bag", "longest"]) fun _ _ _ _ _ _ us hl => match us, hl with | [_, _], _ => rfl
  have b10 := F10.binds (ps := ["bag"]) fun _ _ _ _ _ _ us hl => match us, hl with | [_], _ => rfl
  have b11 := F11.binds (ps := ["bag", "short"]) fun _ _ _ _ _ _ us hl => match us, hl with | [_, _], _ => rfl
  have b12 := F12.binds (ps := ["left", "right"]) fun _ _ _ _ _ _ us hl => match us, hl with | [_, _], _ => rfl
  have b13 := F13.binds (ps := ["bag", "room"]) fun _ _ _ _ _ _ us hl => match us, hl with | [_, _], _ => rfl
  have b14 := F14.binds (ps := ["actual", "due"]) fun _ _ _ _ _ _ us hl => match us, hl with | [_, _], _ => rfl
  refine ⟨PySem.W.fnOf "law" "law" (defArgs s_law) (defBody s_law) (defScope s_law) .none kV15 dc15 pm15 an15 cd15 ct15, fun s v => .of_eq rfl, fun base _ _ => ?_⟩
  have c__law_bag : C8.Cal l.prog w K mg base 1 "_law_bag" (spBag K) [] := ⟨_, _, ["script"], [], ok__law_bag T  F5, PySem.W.mg_of X G a5, k5, b5, .nil⟩
  have c__law_draw : C8.Cal l.prog w K mg base 1 "_law_draw" spDraw [] := ⟨_, _, ["bag", "size"], [], ok__law_draw T  F6, PySem.W.mg_of X G a6, k6, b6, .nil⟩
  have c__law_alike : C8.Cal l.prog w K mg base 1 "_law_alike" (spAlike K) [] := ⟨_, _, ["actual", "due"], [], ok__law_alike T  F14, PySem.W.mg_of X G a14, k14, b14, .nil⟩
  have c__law_name : C8.Cal l.prog w K mg base 2 "_law_name" spName [] := ⟨_, _, ["bag", "longest"], [], ok__law_name T c__law_draw F9, PySem.W.mg_of X G a9, k9, b9, .nil⟩
  have c__law_keywords : C8.Cal l.prog w K mg base 1 "_law_keywords" spKws [] := ⟨_, _, [], [], ok__law_keywords T  F7, PySem.W.mg_of X G a7, k7, b7, .nil⟩
  have c__law_number : C8.Cal l.prog w K mg base 2 "_law_number" spNumber [] := ⟨_, _, ["bag"], [], ok__law_number T c__law_draw F10, PySem.W.mg_of X G a10, k10, b10, .nil⟩
  have c__law_symbols : C8.Cal l.prog w K mg base 1 "_law_symbols" spSyms [] := ⟨_, _, [], [], ok__law_symbols T  F8, PySem.W.mg_of X G a8, k8, b8, .nil⟩
  have c__law_word : C8.Cal l.prog w K mg base 3 "_law_word" spWord [] := ⟨_, _, ["bag", "short"], [], ok__law_word T c__law_draw c__law_name c__law_keywords c__law_number c__law_symbols F11, PySem.W.mg_of X G a11, k11, b11, .nil⟩
  have c__end_of_run : C8.Cal l.prog w K mg base 1 "_end_of_run" spRun [] := ⟨_, _, ["text", "at", "signs"], [], ok__end_of_run T  F2, PySem.W.mg_of X G a2, k2, b2, .nil⟩
  have c__end_of_token : C8.Cal l.prog w K mg base 2 "_end_of_token" spTokEnd [] := ⟨_, _, ["text", "at"], [], ok__end_of_token T c__end_of_run F1, PySem.W.mg_of X G a1, k1, b1, .nil⟩
  have c__is_number : C8.Cal l.prog w K mg base 1 "_is_number" spIsNum [] := ⟨_, _, ["digits"], [], ok__is_number T  F4, PySem.W.mg_of X G a4, k4, b4, .nil⟩
  have c__kind_of : C8.Cal l.prog w K mg base 2 "_kind_of" spKind [] := ⟨_, _, ["word"], [], ok__kind_of T c__is_number F3, PySem.W.mg_of X G a3, k3, b3, .nil⟩
  have c_tokens : C8.Cal l.prog w K mg base 3 "tokens" (spTokens K) [] := ⟨_, _, ["text", "line"], [], ok_tokens T c__end_of_token c__kind_of F0, PySem.W.mg_of X G a0, k0, b0, .nil⟩
  have c__law_glued : C8.Cal l.prog w K mg base 1 "_law_glued" spGlued [] := ⟨_, _, ["left", "right"], [], ok__law_glued T  F12, PySem.W.mg_of X G a12, k12, b12, .nil⟩
  have c__law_comment : C8.Cal l.prog w K mg base 2 "_law_comment" spComment [] := ⟨_, _, ["bag", "room"], [], ok__law_comment T c__law_draw F13, PySem.W.mg_of X G a13, k13, b13, .nil⟩
  exact ok_law T c__law_bag c__law_draw c__law_alike c__law_word c_tokens c__law_glued c__law_comment F15
end K00
open PySem PySem.W PyProof.Rows
set_option maxRecDepth 100000 in
set_option maxHeartbeats 0 in
theorem PySem.Challenge.cw_gatesworn_k00_tokens_holds : PySem.Challenge.rw_gatesworn_k00_tokens.Holds := by
  w_on; o_law; k_head; (case hw => w_witness2)
  k_fill
  refine L2.walk_of (l := PySem.Challenge.rw_gatesworn_k00_tokens) (n := 63) (k := 4) (x := "script") (CX := fun _ => L2.CX0) (sp := fun w => K00.spLaw _) rfl (by decide) rfl ⟨rfl, by decide, by decide⟩ (fun w h Y => PySem.W.kIn_of Y) ?F (fun _ _ a ns hl _ hS => ⟨a, ns, rfl, hS, hl, fun _ => rfl⟩) (fun _ _ _ _ _ h => h)
  case F =>
    intro w mg fa h KX G hmg
    refine' K00.all_mk KX G hmg ?a0 ?l0 ?c0 ?k0 ?a1 ?l1 ?c1 ?k1 ?a2 ?l2 ?c2 ?k2 ?a3 ?l3 ?c3 ?k3 ?a4 ?l4 ?c4 ?k4 ?a5 ?l5 ?c5 ?k5 ?a6 ?l6 ?c6 ?k6 ?a7 ?l7 ?c7 ?k7 ?a8 ?l8 ?c8 ?k8 ?a9 ?l9 ?c9 ?k9 ?a10 ?l10 ?c10 ?k10 ?a11 ?l11 ?c11 ?k11 ?a12 ?l12 ?c12 ?k12 ?a13 ?l13 ?c13 ?k13 ?a14 ?l14 ?c14 ?k14 ?a15 ?l15 ?c15 ?k15 ?z_bool ?z_int ?z_isinstance ?z_len ?z_list ?z_range ?z_str ?z_tuple ?gg_KEYWORDS ?gl_KEYWORDS ?gg_LETTERS ?gg_DIGITS ?gg_WORD_SIGNS ?gg_DOUBLE_SYMBOLS ?gl_DOUBLE_SYMBOLS ?gg_SINGLE_SYMBOLS ?gg_MOST_TOKENS ?gg_LONGEST_NAME ?gg_LONGEST_NUMBER ?gg_GREATEST_NUMBER
    (case a0 => k_is); (case l0 => k_is); (case c0 => k_is); (case k0 => k_is); (case a1 => k_is); (case l1 => k_is); (case c1 => k_is); (case k1 => k_is); (case a2 => k_is); (case l2 => k_is); (case c2 => k_is); (case k2 => k_is); (case a3 => k_is); (case l3 => k_is); (case c3 => k_is); (case k3 => k_is); (case a4 => k_is); (case l4 => k_is); (case c4 => k_is); (case k4 => k_is); (case a5 => k_is); (case l5 => k_is); (case c5 => k_is); (case k5 => k_is); (case a6 => k_is); (case l6 => k_is); (case c6 => k_is); (case k6 => k_is); (case a7 => k_is); (case l7 => k_is); (case c7 => k_is); (case k7 => k_is); (case a8 => k_is); (case l8 => k_is); (case c8 => k_is); (case k8 => k_is); (case a9 => k_is); (case l9 => k_is); (case c9 => k_is); (case k9 => k_is); (case a10 => k_is); (case l10 => k_is); (case c10 => k_is); (case k10 => k_is); (case a11 => k_is); (case l11 => k_is); (case c11 => k_is); (case k11 => k_is); (case a12 => k_is); (case l12 => k_is); (case c12 => k_is); (case k12 => k_is); (case a13 => k_is); (case l13 => k_is); (case c13 => k_is); (case k13 => k_is); (case a14 => k_is); (case l14 => k_is); (case c14 => k_is); (case k14 => k_is); (case a15 => k_is); (case l15 => k_is); (case c15 => k_is); (case k15 => k_is); (case z_bool => k_is); (case z_int => k_is); (case z_isinstance => k_is); (case z_len => k_is); (case z_list => k_is); (case z_range => k_is); (case z_str => k_is); (case z_tuple => k_is); (case gg_KEYWORDS => k_is); (case gl_KEYWORDS => k_is); (case gg_LETTERS => k_is); (case gg_DIGITS => k_is); (case gg_WORD_SIGNS => k_is); (case gg_DOUBLE_SYMBOLS => k_is); (case gl_DOUBLE_SYMBOLS => k_is); (case gg_SINGLE_SYMBOLS => k_is); (case gg_MOST_TOKENS => k_is); (case gg_LONGEST_NAME => k_is); (case gg_LONGEST_NUMBER => k_is); (case gg_GREATEST_NUMBER => k_is)
