import PyProof.Rows.All
import Wide.All
import OpenK.AllK
import Wide.FinOn
import HandS.ForMost
import HandS.SortKw
import HandS.Codes
import HandS.Strs
import HandS.Wide
import HandS.IsInst
import HandS.StrMore
import HandS.Steps
import HandS.Evl
import HandS.Zip
import PySem.Challenge.RW_gatesworn_k41_wave_table
set_option Elab.async false
set_option linter.all false
set_option maxRecDepth 100000
set_option maxHeartbeats 4000000
namespace WL
open PySem PySem.Spec PyProof.Rows L2 PySem.W
/-! max of a list of ints with default= -/
section
variable {prog : Program} {w : World} {A : Around} {R : Result → Shared → Prop} {I : Addr} {fp wr : List Addr} {n : Nat} {P : Nat → Value → Prop} {St : Nat → Heap → Prop} {kw : List (Str × Value)}
theorem mxName : (toString "max" ++ toString ".loop" : String) = "max.loop" := by decide
/-- the turns behind the first one, whatever the keywords -/
theorem mx_turns (W : Walks prog w A.in1 I fp wr n P St) (bt : Nat → Nat → Bool) (cmp : CmpOf prog w A.in1 .Gt P bt) (S : Addr) (nf : S ∉ fp) : ∀ (k j : Nat) (s : Shared) (vb : Value) (c : Nat), n - (j + 1) = k → j + 1 ≤ n → St (j + 1) s.heap → P (argBest bt j) vb →
    s.heap.get? S = some { cls := .type "list", dict := none, data := .seq #[vb, vb] c, slots := #[] } →
    (∀ v h' tk, P (argBest bt (n - 1)) v → (∀ b o, b ∉ wr → b ≠ S → s.heap.get? b = some o → h'.get? b = some o) → R (.ok (.ret v)) { s with heap := h', toks := tk }) →
    codeAny (model prog w) A (.builtin "max.loop" ⟨[.ref I, .none, .ref S], kw⟩) R s := by
  have nw : S ∉ wr := fun h => nf (W.sub _ h)
  intro k; induction k with
  | zero =>
    intro j s vb c hk hj hst hPb hS hR
    have en : j + 1 = n := by omega
    refine codeAny_builtin F.entry_max_loop ?_; rw [Around.under_plainId F.plain_max_loop _]
    (show wpAny _ A.in1 (seqItems? (.ref S) >>= _) _ _ s); refine wpAny_bind (wpAny_seqItems hS rfl ?_)
    (show wpAny _ A.in1 (tryCatch (pyNext (.ref I)) _ >>= _) _ _ s); refine wpAny_bind (wpAny_tryCatch (W.done s _ _ (en ▸ hst) fun h' tk hk' => ?_))
    (show wpAny _ A.in1 (updateSeq S (fun _ => #[]) >>= _) _ _ _); refine wpAny_bind (wpAny_updateSeq (hk' S _ nw hS) rfl (wpAny_bind (wpAny_letGo (wpAny_pure ?_))))
    exact hR vb _ tk (by rw [← en]; exact hPb) fun b o hbw hbS e => (Heap.get?_update_other _ _ (Ne.symm hbS)).trans (hk' b o hbw e)
  | succ k ih =>
    intro j s vb c hk hj hst hPb hS hR
    have hlt : j + 1 < n := by omega
    refine codeAny_builtin F.entry_max_loop ?_; rw [Around.under_plainId F.plain_max_loop _]
    (show wpAny _ A.in1 (seqItems? (.ref S) >>= _) _ _ s); refine wpAny_bind (wpAny_seqItems hS rfl ?_)
    (show wpAny _ A.in1 (tryCatch (pyNext (.ref I)) _ >>= _) _ _ s); refine wpAny_bind (wpAny_tryCatch (W.item (j + 1) s _ _ hlt hst fun v h' tk hP hst' hk' => ?_))
    have hS' := hk' S _ nw hS
    (show wpAny _ A.in1 (tryCatch (holding [v, v] (richCompare .Gt v vb >>= _)) _ >>= _) _ _ _); refine wpAny_bind (wpAny_tryCatch (wpAny_holding (wpAny_bind (cmp (j + 1) (argBest bt j) v vb _ _ _ hP hPb ?_))))
    refine wpAny_bind (wpAny_holding (wpAny_truthy_bool ?_)); refine wpAny_bind (wpAny_letGo (wpAny_pure ?_))
    cases hb : bt (j + 1) (argBest bt j) with
    | true =>
      simp only [if_true]
      refine wpAny_bind (wpAny_updateSeq hS' rfl (wpAny_bind (wpAny_letGo ?_))); rw [mxName]
      refine wpAny_pure ⟨plainId_quiet F.plain_max_loop _, ih (j + 1) _ v _ (by omega) hlt (W.frame _ _ _ hst' fun b hbf o e => ?_) (by simp only [argBest, hb, if_true]; exact hP) (Heap.get?_update_self _ hS' rfl) fun v' h'' tk'' hP' hk'' => ?_⟩
      · exact (Heap.get?_update_other _ _ (fun q : S = b => nf (by rw [q]; exact hbf))).trans e
      · exact hR v' h'' tk'' hP' fun b o hbw hbS e => hk'' b o hbw hbS ((Heap.get?_update_other _ _ (Ne.symm hbS)).trans (hk' b o hbw e))
    | false =>
      simp only [Bool.false_eq_true, if_false]
      refine wpAny_bind (wpAny_letGo ?_); rw [mxName]
      refine wpAny_pure ⟨plainId_quiet F.plain_max_loop _, ih (j + 1) _ vb c (by omega) hlt hst' (by simp only [argBest, hb, Bool.false_eq_true, if_false]; exact hPb) hS' fun v' h'' tk'' hP' hk'' => ?_⟩
      exact hR v' h'' tk'' hP' fun b o hbw hbS e => hk'' b o hbw hbS (hk' b o hbw e)
/-- all turns, at least one item -/
theorem mx_first (W : Walks prog w A.in1 I fp wr n P St) (bt : Nat → Nat → Bool) (cmp : CmpOf prog w A.in1 .Gt P bt) (S : Addr) (nf : S ∉ fp) (hn : 0 < n) {s : Shared} {c : Nat} (hst : St 0 s.heap) (hS : s.heap.get? S = some { cls := .type "list", dict := none, data := .seq #[] c, slots := #[] })
    (hR : ∀ v h' tk, P (argBest bt (n - 1)) v → (∀ b o, b ∉ wr → b ≠ S → s.heap.get? b = some o → h'.get? b = some o) → R (.ok (.ret v)) { s with heap := h', toks := tk }) : codeAny (model prog w) A (.builtin "max.loop" ⟨[.ref I, .none, .ref S], kw⟩) R s := by
  have nw : S ∉ wr := fun h => nf (W.sub _ h)
  refine codeAny_builtin F.entry_max_loop ?_; rw [Around.under_plainId F.plain_max_loop _]
  (show wpAny _ A.in1 (seqItems? (.ref S) >>= _) _ _ s); refine wpAny_bind (wpAny_seqItems hS rfl ?_)
  (show wpAny _ A.in1 (tryCatch (pyNext (.ref I)) _ >>= _) _ _ s); refine wpAny_bind (wpAny_tryCatch (W.item 0 s _ _ hn hst fun v h' tk hP hst' hk' => ?_))
  have hS' := hk' S _ nw hS
  (show wpAny _ A.in1 (updateSeq S (fun _ => #[v, v]) >>= _) _ _ _); refine wpAny_bind (wpAny_updateSeq hS' rfl ?_); rw [mxName]
  refine wpAny_pure ⟨plainId_quiet F.plain_max_loop _, mx_turns W bt cmp S nf _ 0 _ v _ rfl hn (W.frame _ _ _ hst' fun b hbf o e => ?_) hP (Heap.get?_update_self _ hS' rfl) fun v' h'' tk'' hP' hk'' => ?_⟩
  · exact (Heap.get?_update_other _ _ (fun q : S = b => nf (by rw [q]; exact hbf))).trans e
  · exact hR v' h'' tk'' hP' fun b o hbw hbS e => hk'' b o hbw hbS ((Heap.get?_update_other _ _ (Ne.symm hbS)).trans (hk' b o hbw e))
/-- no item: the default -/
theorem mx_none (W : Walks prog w A.in1 I fp wr n P St) (S : Addr) (nf : S ∉ fp) (hn : n = 0) {d : Value} {s : Shared} {c : Nat} (hst : St 0 s.heap) (hS : s.heap.get? S = some { cls := .type "list", dict := none, data := .seq #[] c, slots := #[] })
    (hR : ∀ h' tk, (∀ b o, b ∉ wr → b ≠ S → s.heap.get? b = some o → h'.get? b = some o) → R (.ok (.ret d)) { s with heap := h', toks := tk }) : codeAny (model prog w) A (.builtin "max.loop" ⟨[.ref I, .none, .ref S], [("default", d)]⟩) R s := by
  subst hn
  refine codeAny_builtin F.entry_max_loop ?_; rw [Around.under_plainId F.plain_max_loop _]
  (show wpAny _ A.in1 (seqItems? (.ref S) >>= _) _ _ s); refine wpAny_bind (wpAny_seqItems hS rfl ?_)
  (show wpAny _ A.in1 (tryCatch (pyNext (.ref I)) _ >>= _) _ _ s); refine wpAny_bind (wpAny_tryCatch (W.done s _ _ hst fun h' tk hk' => ?_))
  refine wpAny_bind (wpAny_rule ?_)
  exact wpAny_pure (hR h' tk fun b o hbw _ e => hk' b o hbw e)
end
section
variable {prog : Program} {w : World} {A : Around} {E : Value → Shared → Prop} {s : Shared} {l : Addr} {xs : Array (Int × Tok)} {Q : Value → Shared → Prop}
theorem mx_args (a d : Value) : argsOk "max" ⟨[a], [(Str.ofString "default", d)]⟩ := by unfold argsOk; kernel_rfl
theorem mx_list {d : Value} (hh : A.handled = none) (hl : s.heap.IsList l (intItems xs)) (h0 : xs.size = 0 → ∀ h' tk, (∀ b o, s.heap.get? b = some o → h'.get? b = some o) → Q d { s with heap := h', toks := tk })
    (h1 : 0 < xs.size → ∀ v h' tk, (intItems xs)[argBest (fun i j => decide (numAt xs i > numAt xs j)) (xs.size - 1)]? = some v → (∀ b o, s.heap.get? b = some o → h'.get? b = some o) → Q v { s with heap := h', toks := tk }) :
    wpAny (model prog w) A (call (.builtin "max") [.ref l] [(Str.ofString "default", d)]) Q E s := by
  refine kmk_tree F.kind_max F.plain_max F.entry_max (mx_args _ _) ?_
  show wpAny _ A.in1 (Builtin.Builtins.bindParams "max" ["key", "default"] 0 ⟨[], [(Str.ofString "default", d)]⟩ >>= _) _ _ s
  refine wpAny_bind (wpAny_of_eq (show Builtin.Builtins.bindParams "max" ["key", "default"] 0 ⟨[], [(Str.ofString "default", d)]⟩ = pure [none, some d] from rfl) ?_)
  refine wpAny_bind (wpAny_pure ?_)
  refine wpAny_bind (iter_intList hl fun s₂ e st hfp hlI => ?_)
  refine wpAny_bind (wpAny_newObj_type ?_)
  have W := Walks.list (prog := prog) (w := w) (A := A.in1) hh _ l hlI (intItems xs)
  have nf : s₂.heap.objs.size ∉ [s.heap.objs.size, l] := fun hm => Nat.lt_irrefl _ (hfp _ hm)
  have st0 := W.frame 0 _ (s₂.heap.push { cls := .type "list", data := .seq (#[] : Array Value) }) st (fun b _ o e => Heap.get?_push_of_some _ e)
  have hS : (s₂.heap.push { cls := .type "list", data := .seq (#[] : Array Value) }).get? s₂.heap.objs.size = some { cls := .type "list", data := .seq (#[] : Array Value) } := Heap.get?_push_size _ rfl
  rw [mxName]
  subst e
  by_cases hz : xs.size = 0
  · refine wpAny_pure ⟨plainId_quiet F.plain_max_loop _, mx_none W _ nf (by simpa [intItems] using hz) st0 hS fun h' tk hk => ?_⟩
    exact h0 hz h' tk (old_kept fun b o hb e => hk b o hb (Nat.ne_of_lt (Heap.lt_size e)) (Heap.get?_push_of_some _ e))
  · refine wpAny_pure ⟨plainId_quiet F.plain_max_loop _, mx_first W _ (CmpOf.ints_gt (numAt xs) (fun _ _ => intItems_at)) _ nf (by simp [intItems]; omega) st0 hS fun v h' tk hP hk => ?_⟩
    exact h1 (by omega) v h' tk (by simpa [intItems] using hP) (old_kept fun b o hb e => hk b o hb (Nat.ne_of_lt (Heap.lt_size e)) (Heap.get?_push_of_some _ e))
end
/-- max(xs, default=d), xs a list of ints -/
def rMaxD (K : PySem.W.Frag) : List V → List V → Hp → VK → Prop := fun vs zs H Q => ∃ (a : Addr) (ns : List Int) (d : Int), vs = [V.ref a] ∧ zs = [V.int d] ∧ SqL K H a (ns.map V.int) ∧ (ns = [] → Q (.int d) H) ∧ (∀ m, m ∈ ns → (∀ y, y ∈ ns → y ≤ m) → Q (.int m) H)
theorem cr_maxD {X : Cx} (hc : X.calm = true) : CallRK X (.builtin "max") [Str.ofString "default"] (rMaxD X.K) := by
  intro pins s σ H vs zs us ws Q I r r2 h
  obtain ⟨a, ns, d, rfl, rfl, hs, q0, q1⟩ := h
  obtain ⟨its, rv, hl, _⟩ := I.list hs
  rw [Vals.ref1 r]
  obtain ⟨u, rfl, t, rfl⟩ : ∃ u, ws = [u] ∧ ∃ t, u = Value.int d t := by
    cases r2 with
    | cons a b => cases b; exact ⟨_, rfl, a⟩
  obtain ⟨xs, e⟩ := rv.ints.allInts.items
  have hn : numsOf (intItems xs).toList = ns := by rw [← e]; exact rv.ints.numsOf
  rw [nums_intItems] at hn
  subst hn
  have hl' := hl.isList
  rw [e] at hl'
  refine mx_list (I.ok.hd hc) hl' (fun hz h' tk hk => ⟨.int d, H, I.kept hk, ⟨_, rfl⟩, q0 ?_⟩) (fun hz v h' tk hv hk => ?_)
  · have : xs = #[] := Array.eq_empty_of_size_eq_zero hz
    subst this; rfl
  · obtain ⟨t, rfl⟩ := intItems_at hv
    obtain ⟨k1, k2⟩ := argBest_gt (numAt xs) (xs.size - 1)
    refine ⟨.int _, H, I.kept hk, ⟨_, rfl⟩, q1 _ ?_ fun y hy => ?_⟩
    · rw [numAt_eq]; exact PySem.getD_mem (by rw [List.length_map, Array.length_toList]; omega)
    · obtain ⟨j, hj, rfl⟩ := mem_getD hy
      rw [List.length_map, Array.length_toList] at hj
      rw [← numAt_eq]; exact k2 j (by omega)
theorem my_maxD {X : Cx} (K : PySem.W.Frag) {p pos kp : Pos} {e d : Expr} {te td : TE} (hm : X.mg "max" = none) (hc : X.calm = true) (hg : Gl X "max") (he : PE X e te) (hd : PE X d td)
    (h1 : backTo pos (starEach [e] X.env) = (false, eval e X.env) :: backTo pos (starEach [] X.env) := by rfl) (h2 : (backTo pos (starEach [e] X.env)).any (·.1) = false := by rfl) (h3 : starEach [e] X.env = (false, eval e X.env) :: starEach [] X.env := by rfl) (eK : X.K = K := by rfl) :
    PE X (.Call (.Name "max" p) [e] [⟨some "default", d, kp⟩] pos) (tCKw (rMaxD K) (tCons te tNil) (tCons td tNil)) := by
  subst eK
  exact pe_callBK (cr_maxD hc) hg hm (by decide +kernel) (pa_cons he pa_nil h3) (pk_cons hd pk_nil) (by decide) (by decide) h1 h2 rfl rfl rfl
/-- text * int -/
theorem op_mul_str {X : Cx} : OpR X (binaryOp .Mult) (fun x y H Q => ∃ z n, x = .str z ∧ y = .int n ∧ z.length ≤ 16 ∧ n ≤ 1048576 ∧ -(2 ^ 63 : Int) ≤ n ∧ Q (.str (Txt.mul z n)) H) := by
  intro pins s σ H x y v u Q I rx ry h
  obtain ⟨z, n, rfl, rfl, h1, h2, h3, q⟩ := h
  obtain ⟨t, rfl⟩ := rx
  obtain ⟨t', rfl⟩ := ry
  exact SB.mul (mulOk_of 16 1048576 h1 h2 h3 (by decide) (by decide)) fun t' k => ⟨.str (Txt.mul z n), H, I.tok _, ⟨_, rfl⟩, q⟩
end WL
set_option Elab.async false
set_option linter.all false
set_option maxRecDepth 100000
set_option maxHeartbeats 4000000
namespace WL
open PySem PySem.Spec PyProof.Rows L2 PySem.W
/-! ### heaps: all but b stays -/
def Kp (b : Addr) (H H' : Hp) : Prop := ∀ a o, H a = some o → a ≠ b → H' a = some o
theorem Kp.refl {b : Addr} (H : Hp) : Kp b H H := fun _ _ h _ => h
theorem Kp.trans {b : Addr} {H H1 H2 : Hp} (p : Kp b H H1) (q : Kp b H1 H2) : Kp b H H2 := fun a o h n => q a o (p a o h n) n
theorem Kp.set {b : Addr} {H H1 : Hp} {o : HO} (p : Kp b H H1) : Kp b H (upd H1 b o) := fun a u h n => by rw [upd_ne n]; exact p a u h n
theorem Kp.new {b p : Addr} {H H1 : Hp} {o : HO} (k : Kp b H H1) (hp : H1 p = none) : Kp b H (upd H1 p o) := fun a u h n => by
  have e := k a u h n
  rw [upd_ne (ne_of_none e hp)]; exact e
/-- an object that was not there may change -/
theorem Kp.mut {b p : Addr} {H H1 : Hp} {o : HO} (k : Kp b H H1) (hp : H p = none) : Kp b H (upd H1 p o) := fun a u h n => by
  rw [upd_ne (ne_of_none h hp)]; exact k a u h n
theorem Kp.same {b : Addr} {H H1 : Hp} (s : Same H H1) : Kp b H H1 := fun a o h _ => s a o h
theorem Kp.free {b a : Addr} {H H1 : Hp} (k : Kp b H H1) (n : a ≠ b) (h : H1 a = none) : H a = none := by
  cases e : H a with
  | none => rfl
  | some o => rw [k a o e n] at h; cases h
theorem Kp.seq {K : PySem.W.Frag} {b a : Addr} {xs : List V} {H H1 : Hp} (k : Kp b H H1) (n : a ≠ b) (h : SqL K H a xs) : SqL K H1 a xs := by
  rcases h with (h | ⟨o, h⟩) | h
  · exact .inl (.inl (k _ _ h n))
  · exact .inl (.inr ⟨o, k _ _ h n⟩)
  · exact .inr h
theorem same_new {H : Hp} {p : Addr} {o : HO} (h : H p = none) : Same H (upd H p o) := fun b x e => by
  rw [upd_ne (ne_of_none e h)]; exact e
theorem same_mut {H H1 : Hp} {p : Addr} {o : HO} (k : Same H H1) (hp : H p = none) : Same H (upd H1 p o) := fun a u h => by
  rw [upd_ne (ne_of_none h hp)]; exact k a u h
theorem cxK {CX : CXT} {P : Program} {w : World} {K : PySem.W.Frag} {mg : Str → Option Value} {base : Heap} {N : List Str} {qual : Str} {scope : Scope} {f : Addr} {cd : Value} {A : Around} {outer : List Env} {s : Shared} {H : Hp} {E : XK} : (cxOf CX P w K mg base N qual scope f cd A outer s H E).K = K := rfl
/-! ### the rules with the written part named -/
section
variable {X : Cx} (K : PySem.W.Frag)
theorem kix_list (e : X.K = K := by rfl) : IxR X (rIxL K) := by subst e; exact ix_list
theorem kix_tup (e : X.K = K := by rfl) : IxR X (rIxT K) := by subst e; exact ix_tup
theorem ksl_list (e : X.K = K := by rfl) : SlR X (rSlL K) := by subst e; exact sl_list
theorem ksl_tup (e : X.K = K := by rfl) : SlR X (rSlT K) := by subst e; exact sl_tup
theorem kop_in_seq (e : X.K = K := by rfl) : OpR X (compareOp .In) (rIn K false) := by subst e; exact op_in_seq
theorem kop_notIn_seq (e : X.K = K := by rfl) : OpR X (compareOp .NotIn) (rIn K true) := by subst e; exact op_notIn_seq
theorem kop_catT (e : X.K = K := by rfl) : OpR X (binaryOp .Add) (rCatT K) := by subst e; exact op_catT
theorem kcall_len_seq (e : X.K = K := by rfl) : CallR X (.builtin "len") (fun xs H Q => ∃ p ys, xs = [.ref p] ∧ (SqL K H p ys ∨ SqT K H p ys) ∧ Q (.int ys.length) H) := by subst e; exact call_len_seq
theorem kcall_list_of (e : X.K = K := by rfl) : CallR X (.type "list") (fun xs H Q => ∃ p ys, xs = [.ref p] ∧ (SqL K H p ys ∨ SqT K H p ys) ∧ ∀ l, H l = none → Q (.ref l) (upd H l (.lst ys))) := by subst e; exact call_list_of
theorem kcall_tuple_of (e : X.K = K := by rfl) : CallR X (.type "tuple") (fun xs H Q => ∃ p ys, xs = [.ref p] ∧ ((SqL K H p ys ∧ ∀ l, H l = none → Q (.ref l) (upd H l (.tup ys))) ∨ (SqT K H p ys ∧ Q (.ref p) H))) := by subst e; exact call_tuple_of
theorem kcr_sum (hc : X.calm = true := by rfl) (e : X.K = K := by rfl) : CallR X (.builtin "sum") (rSum K) := by subst e; exact cr_sum hc
theorem kcr_max (hc : X.calm = true := by rfl) (e : X.K = K := by rfl) : CallR X (.builtin "max") (rMax K) := by subst e; exact cr_max hc
theorem kcr_min (hc : X.calm = true := by rfl) (e : X.K = K := by rfl) : CallR X (.builtin "min") (rMin K) := by subst e; exact cr_min hc
theorem kop_eqD (hu : X.A.units + 64 < cLine) (e : X.K = K := by rfl) : OpR X (compareOp .Eq) (rEqD K) := by subst e; exact op_eqD hu
theorem kop_neD (hu : X.A.units + 64 < cLine) (e : X.K = K := by rfl) : OpR X (compareOp .NotEq) (rNeD K) := by subst e; exact op_neD hu
theorem kcall_isi (e : X.K = K := by rfl) : CallR X (.builtin "isinstance") (rIsi K) := by subst e; exact call_isi
theorem kcall_isiT (e : X.K = K := by rfl) : CallR X (.builtin "isinstance") (rIsiT K) := by subst e; exact call_isiT
theorem kpi_list {tg l : Expr} {tl : TE} (hl : PE X l tl) (e : X.K = K := by rfl) : PI X tg l (iList K tl) := by subst e; exact pi_list hl
theorem kpi_tup {tg l : Expr} {tl : TE} (hl : PE X l tl) (e : X.K = K := by rfl) : PI X tg l (iTup K tl) := by subst e; exact pi_tup hl
theorem kpt_truth {a : Expr} {ta : TE} (ha : PE X a ta) (he : ∀ whole, isTrue a X.env whole = (do let v ← whole; standAt a.pos; holding [v] (truthy v))) (e : X.K = K := by rfl) : PT X a (tTru K ta) := by subst e; exact pt_truth ha he
theorem kpe_bm {o ex : Expr} {es : List Expr} {T name id} {apos cpos : Pos} {r : V → List V → Hp → VK → Prop} {to : TE} {t : TA} (pa : PlainAttrs T) (slot : Slot T name id) (hty : typeOf (.builtin id) = pure (.type "method_descriptor")) (hm : MtR X id r) (ho : PE X o to) (ha : PA X (ex :: es) t)
    (hbase : attributeBase o name X.env (eval o X.env) = eval o X.env := by rfl) (hfew : ((backTo cpos (starEach (ex :: es) X.env)).all (fun x => !x.1) && (backToKw cpos (keywordEach [] X.env)).all (fun x => x.1.isSome) && decide ((ex :: es).length + ([] : List Keyword).length + (if ([] : List Keyword).isEmpty then 0 else 1) < 30)) = true := by rfl)
    (hline : (apos.endLine == cpos.line) = true := by rfl) (hs : starEach (ex :: es) X.env = (false, eval ex X.env) :: starEach es X.env := by rfl) (hplain : (backTo cpos (starEach es X.env)).any (·.1) = false := by rfl) (e : X.K = K := by rfl) :
    PE X (.Call (.Attribute o name apos) (ex :: es) [] cpos) (tBM K T r to t) := by subst e; exact pe_bm pa slot hty hm ho ha hbase hfew hline hs hplain
theorem kpe_bm0 {o : Expr} {T name id} {apos cpos : Pos} {r : V → List V → Hp → VK → Prop} {to : TE} (pa : PlainAttrs T) (slot : Slot T name id) (hty : typeOf (.builtin id) = pure (.type "method_descriptor")) (hm : MtR X id r) (ho : PE X o to)
    (hbase : attributeBase o name X.env (eval o X.env) = eval o X.env := by rfl) (hline : (apos.endLine == cpos.line) = true := by rfl) (e : X.K = K := by rfl) : PE X (.Call (.Attribute o name apos) [] [] cpos) (tBM0 K T r to) := by subst e; exact pe_bm0 pa slot hty hm ho hbase hline
theorem kpe_join {o ex : Expr} {to te : TE} {apos pos : Pos} (ho : PE X o to) (he : PE X ex te) (hs : starEach [ex] X.env = [(false, eval ex X.env)] := by rfl) (hbase : attributeBase o "join" X.env (eval o X.env) = eval o X.env := by rfl) (hline : (apos.endLine == pos.line) = true := by rfl) (e : X.K = K := by rfl) :
    PE X (.Call (.Attribute o "join" apos) [ex] [] pos) (tM1 (fun x xs H Q => ∃ a p, ∃ ys : List Str, x = .str a ∧ xs = [.ref p] ∧ (SqL K H p (ys.map V.str) ∨ SqT K H p (ys.map V.str)) ∧ (ys.map (·.length)).sum + ys.length * a.length ≤ 16777216 ∧ Q (.str (Txt.join a ys)) H) to te) := by subst e; exact pe_join ho he hs hbase hline
theorem kpg_tup {es : List Expr} {k : Nat} {t : TGs} {n : Nat} {pos : Pos} (hc : X.calm = true) (h : PGs X es t) (hn : (assignEach es X.env).length = n := by rfl) (hst : (assignEach es X.env).findIdx? (·.1) = none := by rfl) (e : X.K = K := by rfl) : PG X (.Tuple es k pos) (gTup K n t) := by subst e; exact pg_tup hc h hn hst
theorem kpi_zip {ex e2 : Expr} {ta : TA} {p pos tpos : Pos} {elts : List Expr} {kk : Nat} (hg : Gl X "zip") (hm : X.mg "zip" = none) (ha : PA X [ex, e2] ta) (hs : starEach [ex, e2] X.env = (false, eval ex X.env) :: starEach [e2] X.env := by rfl) (hpl : (backTo pos (starEach [e2] X.env)).any (·.1) = false := by rfl) (e : X.K = K := by rfl) :
    PI X (.Tuple elts kk tpos) (.Call (.Name "zip" p) [ex, e2] [] pos) (iZip K ta) := by subst e; exact pi_zip hg hm ha hs hpl
theorem kpi_enum {ex : Expr} {ta : TA} {p pos tpos : Pos} {elts : List Expr} {kk : Nat} (hg : Gl X "enumerate") (hm : X.mg "enumerate" = none) (ha : PA X [ex] ta) (hs : starEach [ex] X.env = [(false, eval ex X.env)] := by rfl) (e : X.K = K := by rfl) :
    PI X (.Tuple elts kk tpos) (.Call (.Name "enumerate" p) [ex] [] pos) (iEnum K ta) := by subst e; exact pi_enum hg hm ha hs
theorem kpi_reversed {tg ex : Expr} {ta : TA} {p pos : Pos} (hg : Gl X "reversed") (hm : X.mg "reversed" = none) (ha : PA X [ex] ta) (hs : starEach [ex] X.env = [(false, eval ex X.env)] := by rfl) (e : X.K = K := by rfl) : PI X tg (.Call (.Name "reversed" p) [ex] [] pos) (iRev K ta) := by subst e; exact pi_reversed hg hm ha hs
end
/-! ### steps of a reading -/
section
variable {K : PySem.W.Frag} {σ : L2.St} {H : Hp} {Q : VK} {D : Ends} {ta tb te tc : TE} {t u : TS} {c d : TT} {i j : Int} {x y v : V} {p : Addr} {xs : List V} {k : Nat} {b : Bool}
theorem g_seq (h : t { D with nx := u D } σ H) : tSeq t u D σ H := h
theorem g_asg {g : TG} (h : te σ H fun x H1 => g x σ H1 D.nx) : tAsg te g D σ H := h
theorem g_name {Q : L2.St → Hp → Prop} (h : Q (σ.set k (some v)) H) : gName k v σ H Q := h
theorem g_sub {to ti : TE} {r : TSet} {Q : L2.St → Hp → Prop} (h : to σ H fun o H1 => ti σ H1 fun i H2 => r o i v H2 fun H3 => Q σ H3) : gSub to ti r v σ H Q := h
theorem g_var (e : σ[k]? = some (some v)) (h : Q v H) : tVar k σ H Q := ⟨v, e, h⟩
theorem g_c (h : Q v H) : tC v σ H Q := h
theorem g_op {r : R2} (h : ta σ H fun x H1 => tb σ H1 fun y H2 => r x y H2 Q) : tOp r ta tb σ H Q := h
theorem g_un {r : V → Hp → VK → Prop} (h : ta σ H fun x H1 => r x H1 Q) : tUn r ta σ H Q := h
theorem g_I0 {g : Int → Int → V} (h : Q (g i j) H) : rI0 g (.int i) (.int j) H Q := ⟨i, j, rfl, rfl, h⟩
theorem g_I {C : Int → Int → Prop} {g : Int → Int → V} (hc : C i j) (h : Q (g i j) H) : rI C g (.int i) (.int j) H Q := ⟨i, j, rfl, rfl, hc, h⟩
theorem g_U {g : Int → V} (h : Q (g i) H) : rU g (.int i) H Q := ⟨i, rfl, h⟩
theorem g_eq (s : scal x y = true) (h : Q (.bl (decide (x = y))) H) : rEq x y H Q := ⟨s, h⟩
theorem g_ne (s : scal x y = true) (h : Q (.bl (!decide (x = y))) H) : rNe x y H Q := ⟨s, h⟩
theorem g_drop (h : te σ H fun _ H1 => D.nx σ H1) : tDrop te D σ H := h
theorem g_ret (h : te σ H D.rt) : tRet te D σ H := h
theorem g_next (h : D.nx σ H) : tNext D σ H := h
theorem g_ifS (h : c σ H fun b H1 => if b = true then t D σ H1 else u D σ H1) : tIfS c t u D σ H := h
theorem g_ifE (h : c σ H fun b H1 => if b = true then ta σ H1 Q else tb σ H1 Q) : tIf c ta tb σ H Q := h
theorem g_test {Q : Bool → Hp → Prop} (h : te σ H fun x H' => ∃ k, x = .bl k ∧ Q k H') : tTest te σ H Q := h
theorem g_tb {Q : Bool → Hp → Prop} (h : te σ H fun x H' => ∃ k, x = .bl k ∧ Q k H') : tB te σ H Q := h
theorem g_bl {Q : Bool → Prop} (h : Q b) : ∃ k, V.bl b = .bl k ∧ Q k := ⟨b, rfl, h⟩
theorem g_not {Q : Bool → Hp → Prop} (h : c σ H fun b H1 => Q (!b) H1) : tNot c σ H Q := h
theorem g_and {Q : Bool → Hp → Prop} (h : c σ H fun b H1 => if b = true then d σ H1 Q else Q false H1) : tAnd c d σ H Q := h
theorem g_or {Q : Bool → Hp → Prop} (h : c σ H fun b H1 => if b = true then Q true H1 else d σ H1 Q) : tOr c d σ H Q := h
theorem g_nil {Q : List V → Hp → Prop} (h : Q [] H) : tNil σ H Q := h
theorem g_cons {tr : TA} {Q : List V → Hp → Prop} (h : te σ H fun x H1 => tr σ H1 fun xs H2 => Q (x :: xs) H2) : tCons te tr σ H Q := h
theorem g_cb {r : List V → Hp → VK → Prop} {tr : TA} (h : tr σ H fun vs H1 => r vs H1 Q) : tCB r tr σ H Q := h
theorem g_call {sp : Sp} {dvs : List V} {E : XK} {tr : TA} (h : tr σ H fun vs H1 => sp (vs ++ dvs) H1 Q E) : tCall sp dvs E tr σ H Q := h
theorem g_ixL {z : Int} (hs : SqL K H p xs) (ha : atI xs z = some v) (h : Q v H) : rIxL K (.ref p) (.int z) H Q := ⟨p, xs, z, v, rfl, rfl, hs, ha, h⟩
theorem g_setL {z : Int} {Q : Hp → Prop} {n : Nat} {ys : List V} (hs : H p = some (.lst xs)) (ha : ixN xs.length z = some n) (e : xs.set n v = ys) (h : Q (upd H p (.lst ys))) : rSetL (.ref p) (.int z) v H Q := ⟨p, xs, z, n, rfl, rfl, hs, ha, by rw [e]; exact h⟩
theorem g_setL2 {z : Int} {Q : Hp → Prop} {n : Nat} {ys : List V} (ha : ixN xs.length z = some n) (e : xs.set n v = ys) (h : Q (upd H p (.lst ys))) : rSetL (.ref p) (.int z) v (upd H p (.lst xs)) Q :=
  ⟨p, xs, z, n, rfl, rfl, upd_same, ha, by rw [upd_upd, e]; exact h⟩
theorem g_int {Q : Int → Prop} {R : Prop} (h : Q i) : (∃ z, [V.int i] = [.int z] ∧ Q z) ∨ R := .inl ⟨i, rfl, h⟩
theorem g_lst {tr : TA} (h : tr σ H fun xs H1 => xs.length ≤ sizeLine ∧ ∀ p, H1 p = none → Q (.ref p) (upd H1 p (.lst xs))) : tLst tr σ H Q := h
theorem g_tup {tr : TA} (h : tr σ H fun xs H1 => xs.length ≤ sizeLine ∧ ∀ p, H1 p = none → Q (.ref p) (upd H1 p (.tup xs))) : tTup tr σ H Q := h
theorem g_lenS {Q : List V → Prop} (hs : SqL K H p xs) (h : Q xs) : ∃ p' ys, [V.ref p] = [.ref p'] ∧ (SqL K H p' ys ∨ SqT K H p' ys) ∧ Q ys := ⟨p, xs, rfl, .inl hs, h⟩
theorem g_ite {A B : Prop} {P : Prop} [Decidable P] (h1 : P → A) (h2 : ¬ P → B) : if decide P = true then A else B := by
  by_cases h : P
  · rw [if_pos (decide_eq_true h)]; exact h1 h
  · rw [if_neg (fun e => h (of_decide_eq_true e))]; exact h2 h
theorem g_iteN {A B : Prop} {P : Prop} [Decidable P] (h1 : ¬ P → A) (h2 : P → B) : if (!decide P) = true then A else B := by
  by_cases h : P
  · rw [decide_eq_true h]; exact iteF (h2 h)
  · rw [decide_eq_false h]; exact iteT (h1 h)
theorem g_iteI {A B : Prop} (h1 : i = j → A) (h2 : i ≠ j → B) : if decide (V.int i = V.int j) = true then A else B :=
  g_ite (fun e => h1 (V.int.inj e)) (fun n => h2 fun e => n (congrArg V.int e))
theorem g_iteNI {A B : Prop} (h1 : i ≠ j → A) (h2 : i = j → B) : if (!decide (V.int i = V.int j)) = true then A else B :=
  g_iteN (fun n => h1 fun e => n (congrArg V.int e)) (fun e => h2 (V.int.inj e))
theorem g_iteB {A B : Prop} (h1 : b = true → A) (h2 : b = false → B) : if b = true then A else B := by
  cases b with
  | true => exact iteT (h1 rfl)
  | false => exact iteF (h2 rfl)
end
/-! ### loops and comprehensions -/
section
variable {K : PySem.W.Frag} {σ : L2.St} {H : Hp} {Q : VK} {D : Ends} {ta tb te tl : TE} {tbd : TS} {wi : TI} {g : TG} {tt : TT} {vs : List Nat} {p : Addr} {xs : List V} {z : Int} {k : Nat} {v : V}
def tForK (g : TG) (tb : TS) (D : Ends) (σ : L2.St) (J : It) (H1 : Hp) : Prop := ∃ W : Nat → Nat → L2.St → Hp → Prop, (∃ m, W 0 m σ H1) ∧ ∀ i m σ H, W i m σ H →
  (J.stop i H ∧ D.nx σ H) ∨ (J.go i H ∧ ∃ N : L2.St → Hp → Prop, (∀ σ' H', N σ' H' → ∃ m', m' < m ∧ W (i + 1) m' σ' H') ∧ ∀ x H', J.yld i H x H' → g x σ H' fun σ2 H2 => tb { D with nx := N, ct := N, bk := D.nx } σ2 H2)
def tLcK (g : TG) (tt : TT) (te : TE) (vs : List Nat) (σ : L2.St) (Q : VK) (J : It) (H1 : Hp) : Prop := ∀ D, H1 D = none → ∃ W : Nat → Nat → Hp → Prop, (∃ m, W 0 m (upd H1 D (.lst []))) ∧ ∀ i m H, W i m H →
  (J.stop i H ∧ Q (.ref D) H) ∨ (J.go i H ∧ ∃ Nx : Hp → Prop, (∀ H', Nx H' → ∃ m', m' < m ∧ W (i + 1) m' H') ∧ ∀ x H', J.yld i H x H' → g x (wipe σ vs) H' fun σ2 H2 => wipe σ2 vs = wipe σ vs ∧ tt σ2 H2 fun b H3 =>
    if b = true then te σ2 H3 fun y H4 => ∃ acc, H4 D = some (.lst acc) ∧ acc.length < sizeLine ∧ Nx (upd H4 D (.lst (acc ++ [y]))) else Nx H3)
theorem g_nn {R : Prop} (h : R) : V.non = V.non ∧ R := ⟨rfl, h⟩
theorem g_yes {Q : Bool → Hp → Prop} (h : Q true H) : tYes σ H Q := h
theorem g_for (h : wi σ H (tForK g tbd D σ)) : tFor wi g tbd D σ H := h
theorem g_lc (h : wi σ H (tLcK g tt te vs σ Q)) : tLc wi g tt te vs σ H Q := h
theorem g_iList {R : It → Hp → Prop} (h : tl σ H fun x H1 => ∃ a, x = .ref a ∧ (∃ xs, SqL K H1 a xs) ∧ R (Itl K a) H1) : iList K tl σ H R := h
theorem g_iRng1 {tr : TA} {R : It → Hp → Prop} (h : tr σ H fun vs H1 => ∃ j : Int, vs = [.int j] ∧ -(2 ^ 62) ≤ j ∧ j < 2 ^ 62 ∧ R (Itr 0 j.toNat) H1) : iRng1 tr σ H R := h
theorem g_iRng2 {tr : TA} {R : It → Hp → Prop} (h : tr σ H fun vs H1 => ∃ i j : Int, vs = [.int i, .int j] ∧ (-(2 ^ 62) ≤ i ∧ i < 2 ^ 62 ∧ -(2 ^ 62) ≤ j ∧ j < 2 ^ 62) ∧ R (Itr i (j - i).toNat) H1) : iRng2 tr σ H R := h
theorem g_sl {r : V → Option Int → Option Int → Hp → VK → Prop} {tlo thi : TO} (h : te σ H fun x H1 => tlo σ H1 fun l H2 => thi σ H2 fun u H3 => r x l u H3 Q) : tSl r te tlo thi σ H Q := h
theorem g_noPart {Q : Option Int → Hp → Prop} (h : Q none H) : tNoPart σ H Q := h
theorem g_part {Q : Option Int → Hp → Prop} (h : te σ H fun x H1 => ∃ i, x = .int i ∧ Q (some i) H1) : tPart te σ H Q := h
theorem g_ex1 {Q : Int → Prop} (h : Q z) : ∃ i, V.int z = .int i ∧ Q i := ⟨z, rfl, h⟩
theorem g_ixS {x : Str} {c : Nat} (hl : x.length ≤ sizeLine) (ha : atI x.cps.toList z = some c) (h : Q (.str ⟨#[c]⟩) H) : rIxS (.str x) (.int z) H Q := ⟨x, z, c, rfl, rfl, hl, ha, h⟩
theorem g_bm {T : String} {r : V → List V → Hp → VK → Prop} {to : TE} {tr : TA} (h : to σ H fun x H1 => tyV K T x H1 ∧ tr σ H1 fun xs H2 => r x xs H2 Q) : tBM K T r to tr σ H Q := h
theorem g_tyL {R : Prop} (hs : H p = some (.lst xs)) (h : R) : tyV K "list" (.ref p) H ∧ R := ⟨.inl ⟨rfl, _, SqL.of hs⟩, h⟩
theorem g_app (hs : H p = some (.lst xs)) (hz : xs.length < sizeLine) (h : Q .non (upd H p (.lst (xs ++ [v])))) : rAppend (.ref p) [v] H Q := ⟨p, xs, v, rfl, rfl, hs, hz, h⟩
/-- for x in a list -/
theorem f_list (hS : SqL K H p xs) (Pv : Nat → L2.St → Hp → Prop) (h0 : Pv 0 σ H) (hl : ∀ i σ H, i ≤ xs.length → Pv i σ H → SqL K H p xs)
    (hs : ∀ i x σ H, xs[i]? = some x → Pv i σ H → g x σ H fun σ2 H2 => tbd { D with nx := Pv (i + 1), ct := Pv (i + 1), bk := D.nx } σ2 H2) (hd : ∀ σ H, Pv xs.length σ H → D.nx σ H) :
    ∃ a, V.ref p = .ref a ∧ (∃ xs, SqL K H a xs) ∧ tForK g tbd D σ (Itl K a) H := ⟨p, rfl, ⟨_, hS⟩, for_list Pv h0 hl hs hd⟩
/-- for k in range(z) -/
theorem f_rng1 (h1 : -(2 ^ 62) ≤ z) (h2 : z < 2 ^ 62) (Pv : Nat → L2.St → Hp → Prop) (h0 : Pv 0 σ H) (hs : ∀ i σ H, i < z.toNat → Pv i σ H → g (.int i) σ H fun σ2 H2 => tbd { D with nx := Pv (i + 1), ct := Pv (i + 1), bk := D.nx } σ2 H2) (hd : ∀ σ H, Pv z.toNat σ H → D.nx σ H) :
    ∃ j : Int, [V.int z] = [.int j] ∧ -(2 ^ 62) ≤ j ∧ j < 2 ^ 62 ∧ tForK g tbd D σ (Itr 0 j.toNat) H := ⟨z, rfl, h1, h2, for_range Pv h0 (fun i σ H hi p => by rw [Int.zero_add]; exact hs i σ H hi p) hd⟩
/-- a comprehension over a list -/
theorem f_lcL (hS : SqL K H p xs) (Pv : Addr → Nat → Hp → Prop) (h0 : ∀ D, H D = none → Pv D 0 (upd H D (.lst []))) (hl : ∀ D i H', H D = none → i ≤ xs.length → Pv D i H' → SqL K H' p xs)
    (hs : ∀ D i x H', H D = none → xs[i]? = some x → Pv D i H' → g x (wipe σ vs) H' fun σ2 H2 => wipe σ2 vs = wipe σ vs ∧ tt σ2 H2 fun b H3 => if b = true then te σ2 H3 fun y H4 => ∃ acc, H4 D = some (.lst acc) ∧ acc.length < sizeLine ∧ Pv D (i + 1) (upd H4 D (.lst (acc ++ [y]))) else Pv D (i + 1) H3)
    (hd : ∀ D H', H D = none → Pv D xs.length H' → Q (.ref D) H') : ∃ a, V.ref p = .ref a ∧ (∃ xs, SqL K H a xs) ∧ tLcK g tt te vs σ Q (Itl K a) H :=
  ⟨p, rfl, ⟨_, hS⟩, fun D nD => lc_list (xs := xs) (Pv D) (h0 D nD) (fun i H' hi q => hl D i H' nD hi q) (fun i x H' hx q => hs D i x H' nD hx q) fun H' q => hd D H' nD q⟩
/-- .. over range(z) -/
theorem f_lcR (h1 : -(2 ^ 62) ≤ z) (h2 : z < 2 ^ 62) (Pv : Addr → Nat → Hp → Prop) (h0 : ∀ D, H D = none → Pv D 0 (upd H D (.lst [])))
    (hs : ∀ D i H', H D = none → i < z.toNat → Pv D i H' → g (.int i) (wipe σ vs) H' fun σ2 H2 => wipe σ2 vs = wipe σ vs ∧ tt σ2 H2 fun b H3 => if b = true then te σ2 H3 fun y H4 => ∃ acc, H4 D = some (.lst acc) ∧ acc.length < sizeLine ∧ Pv D (i + 1) (upd H4 D (.lst (acc ++ [y]))) else Pv D (i + 1) H3)
    (hd : ∀ D H', H D = none → Pv D z.toNat H' → Q (.ref D) H') : ∃ j : Int, [V.int z] = [.int j] ∧ -(2 ^ 62) ≤ j ∧ j < 2 ^ 62 ∧ tLcK g tt te vs σ Q (Itr 0 j.toNat) H :=
  ⟨z, rfl, h1, h2, fun D nD => lc_range (Pv D) (h0 D nD) (fun i H' hi q => by rw [Int.zero_add]; exact hs D i H' nD hi q) fun H' q => hd D H' nD q⟩
/-- [f x for x in xs], nothing else made -/
theorem f_lcMap {j : Nat} (hS : SqL K H p xs) (hz : xs.length ≤ 100000) (f : V → V) (hw : ∀ x, wipe ((wipe σ vs).set j (some x)) vs = wipe σ vs)
    (he : ∀ (i : Nat) x H' (Q' : VK), xs[i]? = some x → Same H H' → Q' (f x) H' → te ((wipe σ vs).set j (some x)) H' Q') (hd : ∀ D, H D = none → Q (.ref D) (upd H D (.lst (xs.map f)))) :
    ∃ a, V.ref p = .ref a ∧ (∃ xs, SqL K H a xs) ∧ tLcK (gName j) tYes te vs σ Q (Itl K a) H :=
  f_lcL hS (fun D i H' => H' = upd H D (.lst ((xs.take i).map f))) (fun D _ => rfl) (fun D i H' nD _ e => by rw [e]; exact (same_new nD).seq hS)
    (fun D i x H' nD hx e => ⟨hw x, (by
      suffices hh : te ((wipe σ vs).set j (some x)) H' (fun y H4 => ∃ acc, H4 D = some (.lst acc) ∧ acc.length < sizeLine ∧ upd H4 D (.lst (acc ++ [y])) = upd H D (.lst ((xs.take (i + 1)).map f))) by exact hh
      refine he i x H' _ hx (by rw [e]; exact same_new nD) ?_
      have hi := (List.getElem?_eq_some_iff.mp hx).1
      subst e
      refine ⟨_, upd_same, ?_, ?_⟩
      · rw [List.length_map, List.length_take]; exact Nat.lt_of_le_of_lt (Nat.min_le_right _ _) (Nat.lt_of_le_of_lt hz (by decide))
      · rw [upd_upd, List.take_succ, hx]; simp)⟩) (fun D H' nD e => by rw [e, List.take_length]; exact hd D nD)
/-- [f i for i in range(z)], nothing else made -/
theorem f_lcMapR {j : Nat} (h1 : -(2 ^ 62) ≤ z) (h2 : z ≤ 100000) (f : Nat → V) (hw : ∀ x, wipe ((wipe σ vs).set j (some x)) vs = wipe σ vs)
    (he : ∀ (i : Nat) H' (Q' : VK), i < z.toNat → Same H H' → Q' (f i) H' → te ((wipe σ vs).set j (some (.int i))) H' Q') (hd : ∀ D, H D = none → Q (.ref D) (upd H D (.lst ((List.range z.toNat).map f)))) :
    ∃ j' : Int, [V.int z] = [.int j'] ∧ -(2 ^ 62) ≤ j' ∧ j' < 2 ^ 62 ∧ tLcK (gName j) tYes te vs σ Q (Itr 0 j'.toNat) H :=
  f_lcR h1 (by omega) (fun D i H' => H' = upd H D (.lst ((List.range i).map f))) (fun D _ => rfl)
    (fun D i H' nD hi e => ⟨hw _, (by
      suffices hh : te ((wipe σ vs).set j (some (.int i))) H' (fun y H4 => ∃ acc, H4 D = some (.lst acc) ∧ acc.length < sizeLine ∧ upd H4 D (.lst (acc ++ [y])) = upd H D (.lst ((List.range (i + 1)).map f))) by exact hh
      refine he i H' _ hi (by rw [e]; exact same_new nD) ?_
      subst e
      refine ⟨_, upd_same, ?_, ?_⟩
      · rw [List.length_map, List.length_range]; exact Nat.lt_of_lt_of_le (m := 100000) (by omega) (by decide)
      · rw [upd_upd, List.range_succ]; simp)⟩) (fun D H' nD e => by rw [e]; exact hd D nD)
end
theorem cut_to (xs : List V) (k : Nat) : cutV xs none (some (k : Int)) = xs.take k := by
  unfold cutV
  rw [show HT.sIx xs.length xs.length (some (k : Int)) = min k xs.length from HT.sIx_nat xs.length xs.length k, HT.sIx_none, List.drop_zero, Nat.sub_zero]
  by_cases h : k ≤ xs.length
  · rw [Nat.min_eq_left h]
  · rw [Nat.min_eq_right (by omega), List.take_length, List.take_of_length_le (by omega)]
theorem cut_from (xs : List V) (k : Nat) : cutV xs (some (k : Int)) none = xs.drop k := by
  unfold cutV
  rw [show HT.sIx xs.length 0 (some (k : Int)) = min k xs.length from HT.sIx_nat xs.length 0 k, HT.sIx_none]
  by_cases h : k ≤ xs.length
  · rw [Nat.min_eq_left h, List.take_of_length_le (by rw [List.length_drop] <;> omega)]
  · rw [Nat.min_eq_right (by omega), List.drop_of_length_le (Nat.le_refl _), List.drop_of_length_le (by omega), List.take_nil]
theorem g_slL {K : PySem.W.Frag} {H : Hp} {Q : VK} {p : Addr} {xs ys : List V} {lo hi : Option Int} (hS : SqL K H p xs) (e : cutV xs lo hi = ys) (h : ∀ q, H q = none → Q (.ref q) (upd H q (.lst ys))) : rSlL K (.ref p) lo hi H Q := ⟨p, xs, rfl, hS, by rw [e]; exact h⟩
theorem map_at {ns : List Int} {i : Nat} {x : V} (h : (ns.map V.int)[i]? = some x) : ∃ n, ns[i]? = some n ∧ x = .int n := by
  rw [List.getElem?_map] at h
  cases e : ns[i]? with
  | none => rw [e] at h; cases h
  | some n => rw [e] at h; exact ⟨n, rfl, (Option.some.inj h).symm⟩
theorem map_atS {ns : List Str} {i : Nat} {x : V} (h : (ns.map V.str)[i]? = some x) : ∃ n, ns[i]? = some n ∧ x = .str n := by
  rw [List.getElem?_map] at h
  cases e : ns[i]? with
  | none => rw [e] at h; cases h
  | some n => rw [e] at h; exact ⟨n, rfl, (Option.some.inj h).symm⟩
theorem lt_at {α : Type} {l : List α} {i : Nat} {x : α} (h : l[i]? = some x) : i < l.length := (List.getElem?_eq_some_iff.mp h).1
theorem sz_lt {n : Nat} (h : n < 100000) : n < sizeLine := Nat.lt_of_lt_of_le h (by decide)
theorem sz_le {n : Nat} (h : n ≤ 100000) : n ≤ sizeLine := Nat.le_trans h (by decide)
/-! ### data, texts -/
theorem len_cat (x y : Str) : (x ++ y).length = x.length + y.length := by rw [TL.len_tl, TL.tl_append, List.length_append, ← TL.len_tl, ← TL.len_tl]
theorem strOk_of {x : Str} (h : ∀ c ∈ x.cps.toList, c < 1114112) : PyData.strOk x = true := by
  unfold PyData.strOk; rw [← Array.all_toList, List.all_eq_true]; exact fun c hc => decide_eq_true (h c hc)
theorem strOk_mem {x : Str} (h : PyData.strOk x = true) : ∀ c ∈ x.cps.toList, c < 1114112 := by
  unfold PyData.strOk at h; rw [← Array.all_toList, List.all_eq_true] at h; exact fun c hc => of_decide_eq_true (h c hc)
theorem strOk_cat {x y : Str} (hx : PyData.strOk x = true) (hy : PyData.strOk y = true) : PyData.strOk (x ++ y) = true := strOk_of fun c hc => by
  have e : (x ++ y).cps.toList = x.cps.toList ++ y.cps.toList := TL.tl_append x y
  rw [e] at hc
  rcases List.mem_append.mp hc with h | h
  · exact strOk_mem hx c h
  · exact strOk_mem hy c h
theorem strOk_sign {x : Str} {c : Nat} (hx : PyData.strOk x = true) (h : c ∈ x.cps.toList) : PyData.strOk (⟨#[c]⟩ : Str) = true := strOk_of fun d hd => by
  have : d = c := by simpa using hd
  subst this; exact strOk_mem hx _ h
theorem shaped_list {ds : List PyData} (h1 : PyData.canLayAll0 ds = true) (h2 : PyData.depthAll ds ≤ 60) : SeqAt.shaped (.list ds) = true := by
  unfold SeqAt.shaped; rw [Bool.and_eq_true]
  exact ⟨by rw [PyData.canLay0]; exact h1, decide_eq_true (by rw [PyData.depth]; omega)⟩
theorem dpAll_strs {K : PySem.W.Frag} {H : Hp} : ∀ l : List Str, DpAll K H (l.map V.str) (l.map PyData.str)
  | [] => .nil
  | x :: r => .cons (.str x) (dpAll_strs r)
theorem lay_strs : ∀ l : List Str, (∀ z ∈ l, PyData.strOk z = true) → PyData.canLayAll0 (l.map PyData.str) = true
  | [], _ => rfl
  | x :: r, h => by
    rw [List.map_cons, PyData.canLayAll0, lay_strs r fun z hz => h z (List.mem_cons_of_mem _ hz), PyData.canLay0, h x List.mem_cons_self]; rfl
theorem depth_strs : ∀ l : List Str, PyData.depthAll (l.map PyData.str) = 0
  | [] => rfl
  | x :: r => by simp [PyData.depthAll, PyData.depth, depth_strs r]
theorem shaped_strs {l : List Str} (h : ∀ z ∈ l, PyData.strOk z = true) : SeqAt.shaped (.list (l.map PyData.str)) = true := shaped_list (lay_strs l h) (by rw [depth_strs]; decide)
theorem eqv_same {d : PyData} (h : SeqAt.shaped d = true) : PyData.eqv d d = true := SeqAt.eqv_refl d (SeqAt.canLay_of_shaped h)
theorem at_z {α : Type} {xs : List α} {z : Int} {j : Nat} {v : α} (e : z = (j : Int)) (h : xs[j]? = some v) : atI xs z = some v := by
  rw [e]; exact atI_nat h
section
variable {K : PySem.W.Frag} {σ : L2.St} {H : Hp} {Q : VK} {te to : TE}
theorem g_two {Q : Int → Int → Prop} {i j : Int} (h : Q i j) : ∃ a b, [V.int i, V.int j] = [.int a, .int b] ∧ Q a b := ⟨i, j, rfl, h⟩
theorem g_lenStr {Q : Str → Prop} {x : Str} (hl : x.length ≤ sizeLine) (h : Q x) : ∃ y, [V.str x] = [.str y] ∧ y.length ≤ sizeLine ∧ Q y := ⟨x, rfl, hl, h⟩
theorem g_m1 {r : V → List V → Hp → VK → Prop} (h : to σ H fun x H1 => (∃ a, x = .str a) ∧ te σ H1 fun y H2 => r x [y] H2 Q) : tM1 r to te σ H Q := h
theorem g_isS {x : Str} {R : Prop} (h : R) : (∃ a, V.str x = .str a) ∧ R := ⟨⟨x, rfl⟩, h⟩
theorem g_addS {x y : Str} {Q : Str → Str → Prop} (hz : x.length + y.length ≤ sizeLine) (h : Q x y) : ∃ i j, V.str x = .str i ∧ V.str y = .str j ∧ i.length + j.length ≤ sizeLine ∧ Q i j := ⟨x, y, rfl, rfl, hz, h⟩
theorem g_mulS {x : Str} {n : Int} {Q : Str → Int → Prop} (h1 : x.length ≤ 16) (h2 : n ≤ 1048576) (h3 : -(2 ^ 63 : Int) ≤ n) (h : Q x n) : ∃ z m, V.str x = .str z ∧ V.int n = .int m ∧ z.length ≤ 16 ∧ m ≤ 1048576 ∧ -(2 ^ 63 : Int) ≤ m ∧ Q z m := ⟨x, n, rfl, rfl, h1, h2, h3, h⟩
theorem g_join {x : Str} {p : Addr} {ys : List Str} {Q : Str → List Str → Prop} (hS : SqL K H p (ys.map V.str)) (hz : (ys.map (·.length)).sum + ys.length * x.length ≤ 16777216) (h : Q x ys) :
    ∃ a p', ∃ zs : List Str, V.str x = .str a ∧ [V.ref p] = [.ref p'] ∧ (SqL K H p' (zs.map V.str) ∨ SqT K H p' (zs.map V.str)) ∧ (zs.map (·.length)).sum + zs.length * a.length ≤ 16777216 ∧ Q a zs := ⟨x, p, ys, rfl, rfl, .inl hS, hz, h⟩
end
theorem map_atG {α : Type} {f : α → V} {l : List α} {i : Nat} {x : V} (h : (l.map f)[i]? = some x) : ∃ a, l[i]? = some a ∧ x = f a := by
  rw [List.getElem?_map] at h
  cases e : l[i]? with
  | none => rw [e] at h; cases h
  | some n => rw [e] at h; exact ⟨n, rfl, (Option.some.inj h).symm⟩
theorem foldl_cps (c : Array Nat) : ∀ (k : Nat) (acc : Array Nat), ((List.replicate k c).foldl (· ++ ·) acc).toList = acc.toList ++ (List.replicate k c.toList).flatten
  | 0, acc => by simp
  | k + 1, acc => by rw [List.replicate_succ, List.foldl_cons, foldl_cps c k, List.replicate_succ]; simp
theorem flat_one (a : Nat) : ∀ k : Nat, (List.replicate k [a]).flatten = List.replicate k a
  | 0 => rfl
  | k + 1 => by rw [List.replicate_succ, List.flatten_cons, flat_one a k, List.replicate_succ]; rfl
/-- one sign, n times -/
theorem mul_one_sign (c : Nat) (n : Int) : Txt.mul (⟨#[c]⟩ : Str) n = ⟨(List.replicate n.toNat c).toArray⟩ := by
  refine TL.ext_tl ?_
  show TL.tl _ = List.replicate n.toNat c
  unfold Txt.mul
  by_cases h1 : n < 1
  · rw [if_pos h1, show n.toNat = 0 by omega]; rfl
  · rw [if_neg h1]
    split
    · rename_i h
      have : n = 1 := by
        rcases Bool.or_eq_true_iff.mp h with h | h
        · exact eq_of_beq h
        · cases h
      subst this; rfl
    · show ((List.replicate n.toNat #[c]).foldl (· ++ ·) #[]).toList = _
      rw [foldl_cps]
      show [] ++ (List.replicate n.toNat [c]).flatten = _
      rw [flat_one]; rfl
/-! ### [f x for row in rows for x in row] -/
section
variable {K : PySem.W.Frag} {σ : L2.St} {H : Hp} {Q : VK} {te : TE} {wi wi1 : TI} {g g1 : TG} {tt tt1 : TT} {vs vs1 : List Nat} {p : Addr}
def tLc2K (g : TG) (tt : TT) (wi1 : TI) (g1 : TG) (tt1 : TT) (te : TE) (vs vs1 : List Nat) (σ : L2.St) (Q : VK) (J : It) (H1 : Hp) : Prop := ∀ D, H1 D = none → ∃ W : Nat → Nat → Hp → Prop, (∃ m, W 0 m (upd H1 D (.lst []))) ∧ ∀ i m H, W i m H →
  (J.stop i H ∧ Q (.ref D) H) ∨ (J.go i H ∧ ∃ Nx : Hp → Prop, (∀ H', Nx H' → ∃ m', m' < m ∧ W (i + 1) m' H') ∧ ∀ x H', J.yld i H x H' → g x (wipe σ vs) H' fun σ2 H2 => wipe σ2 vs = wipe σ vs ∧ tt σ2 H2 fun b H3 =>
    if b = true then wi1 σ2 H3 fun J1 H4 => ∃ W1 : Nat → Nat → Hp → Prop, (∃ m, W1 0 m H4) ∧ ∀ j k H, W1 j k H →
      (J1.stop j H ∧ Nx H) ∨ (J1.go j H ∧ ∃ Nx1 : Hp → Prop, (∀ H', Nx1 H' → ∃ k', k' < k ∧ W1 (j + 1) k' H') ∧ ∀ x H', J1.yld j H x H' → g1 x (wipe σ2 vs1) H' fun σ3 H5 => wipe σ3 vs1 = wipe σ2 vs1 ∧ tt1 σ3 H5 fun b H6 =>
        if b = true then te σ3 H6 fun y H7 => ∃ acc, H7 D = some (.lst acc) ∧ acc.length < sizeLine ∧ Nx1 (upd H7 D (.lst (acc ++ [y]))) else Nx1 H6)
    else Nx H3)
theorem g_lc2 (h : wi σ H (tLc2K g tt wi1 g1 tt1 te vs vs1 σ Q)) : tLc2 wi g tt wi1 g1 tt1 te vs vs1 σ H Q := h
theorem f_lc2Map {j1 j2 : Nat} {ps : List Addr} (row : Addr → List V) (hS : SqL K H p (ps.map V.ref)) (hr : ∀ a ∈ ps, SqL K H a (row a)) (hz : ((ps.map row).flatten).length ≤ 100000) (f : V → V)
    (hw : ∀ x, wipe ((wipe σ vs).set j1 (some x)) vs = wipe σ vs) (hj : ∀ x, ((wipe σ vs).set j1 (some x))[j1]? = some (some x)) (hw1 : ∀ x y, wipe ((wipe ((wipe σ vs).set j1 (some x)) vs1).set j2 (some y)) vs1 = wipe ((wipe σ vs).set j1 (some x)) vs1)
    (he : ∀ a x H' (Q' : VK), a ∈ ps → x ∈ row a → Same H H' → Q' (f x) H' → te ((wipe ((wipe σ vs).set j1 (some (.ref a))) vs1).set j2 (some x)) H' Q') (hd : ∀ D, H D = none → Q (.ref D) (upd H D (.lst (((ps.map row).flatten).map f)))) :
    ∃ a, V.ref p = .ref a ∧ (∃ xs, SqL K H a xs) ∧ tLc2K (gName j1) tYes (iList K (tVar j1)) (gName j2) tYes te vs vs1 σ Q (Itl K a) H := by
  refine ⟨p, rfl, ⟨_, hS⟩, fun D nD => ⟨fun i m H' => m = ps.length - i ∧ i ≤ ps.length ∧ H' = upd H D (.lst ((((ps.take i).map row).flatten).map f)), ⟨ps.length, rfl, Nat.zero_le _, rfl⟩, ?_⟩⟩
  rintro i m H' ⟨rfl, hi, rfl⟩
  have hS' : SqL K (upd H D (.lst ((((ps.take i).map row).flatten).map f))) p (ps.map V.ref) := (same_new nD).seq hS
  by_cases hlt : i < ps.length
  · have ei : ps[i]? = some ps[i] := List.getElem?_eq_getElem hlt
    generalize ps[i] = a at ei
    have ex : (ps.map V.ref)[i]? = some (.ref a) := by rw [List.getElem?_map, ei]; rfl
    have ha := List.mem_of_getElem? ei
    refine .inr ⟨⟨_, _, hS', ex⟩, fun H2 => H2 = upd H D (.lst ((((ps.take (i + 1)).map row).flatten).map f)), fun H2 e => ⟨ps.length - (i + 1), by omega, rfl, hlt, e⟩, fun x H2 hy => ?_⟩
    obtain ⟨rfl, fx⟩ := hy
    have : x = .ref a := Option.some.inj ((fx _ hS').symm.trans ex)
    subst this
    refine ⟨hw _, ?_⟩
    suffices hh : iList K (tVar j1) ((wipe σ vs).set j1 (some (.ref a))) (upd H D (.lst ((((ps.take i).map row).flatten).map f))) (fun J1 H4 => ∃ W1 : Nat → Nat → Hp → Prop, (∃ m, W1 0 m H4) ∧ ∀ j k H3, W1 j k H3 →
      (J1.stop j H3 ∧ H3 = upd H D (.lst ((((ps.take (i + 1)).map row).flatten).map f))) ∨ (J1.go j H3 ∧ ∃ Nx1 : Hp → Prop, (∀ H', Nx1 H' → ∃ k', k' < k ∧ W1 (j + 1) k' H') ∧ ∀ x H', J1.yld j H3 x H' → gName j2 x (wipe ((wipe σ vs).set j1 (some (.ref a))) vs1) H' fun σ3 H5 => wipe σ3 vs1 = wipe ((wipe σ vs).set j1 (some (.ref a))) vs1 ∧ tYes σ3 H5 fun b H6 =>
        if b = true then te σ3 H6 fun y H7 => ∃ acc, H7 D = some (.lst acc) ∧ acc.length < sizeLine ∧ Nx1 (upd H7 D (.lst (acc ++ [y]))) else Nx1 H6)) by exact hh
    have hra : SqL K H a (row a) := hr a ha
    refine ⟨.ref a, hj _, a, rfl, ⟨_, (same_new nD).seq hra⟩, fun j k H3 => k = (row a).length - j ∧ j ≤ (row a).length ∧ H3 = upd H D (.lst ((((ps.take i).map row).flatten ++ (row a).take j).map f)), ⟨(row a).length, rfl, Nat.zero_le _, by rw [List.take_zero, List.append_nil]⟩, ?_⟩
    rintro j k H3 ⟨rfl, hjl, rfl⟩
    have hra' : SqL K (upd H D (.lst ((((ps.take i).map row).flatten ++ (row a).take j).map f))) a (row a) := (same_new nD).seq hra
    have etk : ((ps.take (i + 1)).map row).flatten = ((ps.take i).map row).flatten ++ row a := by rw [List.take_succ, ei]; simp
    by_cases hj2 : j < (row a).length
    · have ej : (row a)[j]? = some (row a)[j] := List.getElem?_eq_getElem hj2
      generalize (row a)[j] = y at ej
      refine .inr ⟨⟨_, _, hra', ej⟩, fun H4 => H4 = upd H D (.lst ((((ps.take i).map row).flatten ++ (row a).take (j + 1)).map f)), fun H4 e => ⟨(row a).length - (j + 1), by omega, rfl, hj2, e⟩, fun x H4 hy => ?_⟩
      obtain ⟨rfl, fy⟩ := hy
      have : x = y := Option.some.inj ((fy _ hra').symm.trans ej)
      subst this
      refine ⟨hw1 _ _, ?_⟩
      suffices hh : te ((wipe ((wipe σ vs).set j1 (some (.ref a))) vs1).set j2 (some x)) (upd H D (.lst ((((ps.take i).map row).flatten ++ (row a).take j).map f))) (fun y H7 => ∃ acc, H7 D = some (.lst acc) ∧ acc.length < sizeLine ∧ upd H7 D (.lst (acc ++ [y])) = upd H D (.lst ((((ps.take i).map row).flatten ++ (row a).take (j + 1)).map f))) by exact hh
      refine he a x _ _ ha (List.mem_of_getElem? ej) (same_new nD) ⟨_, upd_same, sz_lt ?_, ?_⟩
      · have h1 : (((ps.take i).map row).flatten ++ row a).length ≤ ((ps.map row).flatten).length := by
          rw [← etk]
          have : (ps.map row).flatten = ((ps.take (i + 1)).map row).flatten ++ ((ps.drop (i + 1)).map row).flatten := by rw [← List.flatten_append, ← List.map_append, List.take_append_drop]
          rw [this, List.length_append]; omega
        rw [List.length_append] at h1
        rw [List.length_map, List.length_append, List.length_take]; omega
      · rw [upd_upd, List.take_succ, ej, ← List.append_assoc]; simp
    · refine .inl ⟨⟨_, hra', by omega⟩, ?_⟩
      rw [etk, show j = (row a).length by omega, List.take_length]
  · refine .inl ⟨⟨_, hS', by rw [List.length_map]; omega⟩, ?_⟩
    rw [show i = ps.length by omega, List.take_length]
    exact hd D nD
end
section
variable {K : PySem.W.Frag} {σ : L2.St} {H : Hp} {Q : VK}
theorem g_ckw {r : List V → List V → Hp → VK → Prop} {tr tk : TA} (h : tr σ H fun vs H1 => tk σ H1 fun zs H2 => r vs zs H2 Q) : tCKw r tr tk σ H Q := h
theorem g_iZip {ta : TA} {R : It → Hp → Prop} (h : ta σ H fun vs H1 => ∃ a b xs ys, vs = [.ref a, .ref b] ∧ SqL K H1 a xs ∧ SqL K H1 b ys ∧ R (Itz K a b) H1) : iZip K ta σ H R := h
theorem g_pad {x : Str} {i : Int} {Q : Str → Int → Prop} (hp : PadOk i = true) (h : Q x i) : ∃ a j, V.str x = .str a ∧ [V.int i] = [.int j] ∧ PadOk j = true ∧ Q a j := ⟨x, i, rfl, rfl, hp, h⟩
theorem padOk_small {i : Int} (h0 : 0 ≤ i) (h : i ≤ 100000) : PadOk i = true := by
  have hz : i.toNat ≤ sizeLine := sz_le (by omega)
  unfold PadOk fitsSsize Builtin.Str.tooLong
  rw [Bool.and_eq_true]
  refine ⟨?_, ?_⟩
  · simp; omega
  · simp; omega
end
section
variable {K : PySem.W.Frag} {σ : L2.St} {H : Hp} {Q : VK} {ta tb : TE}
theorem g_andV (h : ta σ H fun x H1 => ∃ c, x = .bl c ∧ if c = true then tb σ H1 Q else Q (.bl false) H1) : tAndV ta tb σ H Q := h
theorem g_orV (h : ta σ H fun x H1 => ∃ c, x = .bl c ∧ if c = true then Q (.bl true) H1 else tb σ H1 Q) : tOrV ta tb σ H Q := h
theorem iteNT {A B : Prop} (h : B) : if (!true) = true then A else B := by simpa using h
theorem iteNF {A B : Prop} (h : A) : if (!false) = true then A else B := by simpa using h
theorem g_listOf {p : Addr} {xs : List V} {Q : List V → Prop} (hs : SqL K H p xs) (h : Q xs) : ∃ p' ys, [V.ref p] = [.ref p'] ∧ (SqL K H p' ys ∨ SqT K H p' ys) ∧ Q ys := ⟨p, xs, rfl, .inl hs, h⟩
/-- isinstance of a text, an int, a list .. -/
theorem g_isiB {x : V} {T U : String} {b : Bool} (ty : TyX K H x (.type T)) (e : kitB T U = some b) (h : Q (.bl b) H) : rIsi K [x, .ty U] H Q := ⟨x, .ty U, _, _, b, rfl, .ty U, ty, kit_ty e, h⟩
end
end WL
set_option Elab.async false
set_option linter.all false
set_option maxRecDepth 100000
set_option maxHeartbeats 4000000
namespace K41
open PySem PySem.Spec PyProof.Rows L2 WL
local macro_rules | `(tactic| walk_at "lk") => `(tactic| first
  | exact upd_same
  | assumption
  | (rw [upd_ne (by assumption)]; first | exact upd_same | assumption | (rw [upd_ne (by assumption)]; first | exact upd_same | assumption | (rw [upd_ne (by assumption)]; first | exact upd_same | assumption))))
local macro_rules | `(tactic| walk_at "go1") => `(tactic| first
  | (with_reducible refine g_seq ?_)
  | (with_reducible refine g_asg ?_)
  | (with_reducible refine g_name ?_)
  | (with_reducible refine g_sub ?_)
  | ((with_reducible refine' g_var ?gv ?_); (case gv => exact rfl))
  | (with_reducible refine g_c ?_)
  | (with_reducible refine g_op ?_)
  | (with_reducible refine g_un ?_)
  | (with_reducible refine g_I0 ?_)
  | ((with_reducible refine g_I ?gc ?_); (case gc => first | assumption | decide | (show (0 : Int) < _; omega) | exact Or.inr ⟨by omega, by omega⟩ | exact Or.inl ⟨by omega, by omega⟩ | exact ⟨by omega, by omega⟩))
  | (with_reducible refine iteT ?_)
  | (with_reducible refine iteF ?_)
  | (with_reducible refine iteNT ?_)
  | (with_reducible refine iteNF ?_)
  | (with_reducible refine g_andV ?_)
  | (with_reducible refine g_orV ?_)
  | ((with_reducible refine' g_lenS (by assumption) ?_))
  | ((with_reducible refine' g_lenS (SqL.of (by walk_at "lk")) ?_))
  | (with_reducible refine g_U ?_)
  | ((with_reducible refine g_eq ?gs ?_); (case gs => rfl))
  | ((with_reducible refine g_ne ?gs ?_); (case gs => rfl))
  | (with_reducible refine g_drop ?_)
  | (with_reducible refine g_ret ?_)
  | (with_reducible refine g_next ?_)
  | (with_reducible refine g_ifS ?_)
  | (with_reducible refine g_ifE ?_)
  | (with_reducible refine g_test ?_)
  | (with_reducible refine g_tb ?_)
  | (with_reducible refine g_bl ?_)
  | (with_reducible refine g_not ?_)
  | (with_reducible refine g_and ?_)
  | (with_reducible refine g_or ?_)
  | (with_reducible refine g_nil ?_)
  | (with_reducible refine g_cons ?_)
  | (with_reducible refine g_cb ?_)
  | (with_reducible refine g_call ?_)
  | (with_reducible refine g_int ?_)
  | (with_reducible refine g_two ?_)
  | ((with_reducible refine g_lenStr ?gz ?_); (case gz => first | assumption | exact sz_le (by omega)))
  | (with_reducible refine g_m1 ?_)
  | (with_reducible refine g_isS ?_)
  | (with_reducible refine g_nn ?_)
  | (with_reducible refine g_yes ?_)
  | (with_reducible refine g_for ?_)
  | (with_reducible refine g_ckw ?_)
  | (with_reducible refine g_iZip ?_)
  | (with_reducible refine g_lc ?_)
  | (with_reducible refine g_lc2 ?_)
  | (with_reducible refine g_iList ?_)
  | (with_reducible refine g_iRng1 ?_)
  | (with_reducible refine g_iRng2 ?_)
  | (with_reducible refine g_sl ?_)
  | (with_reducible refine g_noPart ?_)
  | (with_reducible refine g_part ?_)
  | (with_reducible refine g_ex1 ?_)
  | (with_reducible refine g_bm ?_)
  | ((with_reducible refine' g_tyL (by walk_at "lk") ?_))
  | (with_reducible refine g_lst ?_)
  | (with_reducible refine g_tup ?_)
  | ((with_reducible refine' g_ixL (by assumption) ?ga ?_); (case ga => assumption))
  | ((with_reducible refine' g_ixL (SqL.of (by walk_at "lk")) ?ga ?_); (case ga => first | exact rfl | assumption))
  | ((with_reducible refine' g_setL2 ?ga ?gb ?_); (case ga => exact rfl); (case gb => exact rfl))
  | ((with_reducible refine' g_setL (by walk_at "lk") ?ga ?gb ?_); (case ga => exact rfl); (case gb => exact rfl)))
local macro_rules | `(tactic| walk_at "go") => `(tactic| ((repeat walk_at "go1"); try dsimp only [List.set, List.cons_append, List.nil_append]))
def topS (i : Nat) : Stmt := PySem.Challenge.pw_gatesworn_k41_wave_table.main.body.getD i (.Pass ⟨0, 0, 0, 0⟩)
abbrev s_wave_table : Stmt := topS 1
theorem sc_wave_table : FnScope ["names", "rows", "written", "longest", "widest", "lines", "name", "row", "value", "word"] ["names", "rows"] (defScope s_wave_table) := ⟨rfl, rfl, rfl, by decide +kernel, rfl, by decide +kernel, by decide +kernel⟩
abbrev s__law_bag : Stmt := topS 3
theorem sc__law_bag : FnScope ["script", "wide", "cells", "seed", "cell", "number"] ["script"] (defScope s__law_bag) := ⟨rfl, rfl, rfl, by decide +kernel, rfl, by decide +kernel, by decide +kernel⟩
abbrev s__law_take : Stmt := topS 4
theorem sc__law_take : FnScope ["bag", "many", "digit", "cell", "mixed"] ["bag", "many"] (defScope s__law_take) := ⟨rfl, rfl, rfl, by decide +kernel, rfl, by decide +kernel, by decide +kernel⟩
abbrev s__law_name : Stmt := topS 5
theorem sc__law_name : FnScope ["bag", "signs", "size", "name", "k"] ["bag"] (defScope s__law_name) := ⟨rfl, rfl, rfl, by decide +kernel, rfl, by decide +kernel, by decide +kernel⟩
abbrev s__law_worth : Stmt := topS 6
theorem sc__law_worth : FnScope ["bag", "size"] ["bag"] (defScope s__law_worth) := ⟨rfl, rfl, rfl, by decide +kernel, rfl, by decide +kernel, by decide +kernel⟩
abbrev s__law_names : Stmt := topS 7
theorem sc__law_names : FnScope ["bag", "many", "names", "k"] ["bag", "many"] (defScope s__law_names) := ⟨rfl, rfl, rfl, by decide +kernel, rfl, by decide +kernel, by decide +kernel⟩
abbrev s__law_table : Stmt := topS 8
theorem sc__law_table : FnScope ["bag", "many", "most", "length", "alike", "table", "k", "size", "turn"] ["bag", "many"] (defScope s__law_table) := ⟨rfl, rfl, rfl, by decide +kernel, rfl, by decide +kernel, by decide +kernel⟩
abbrev s__law_written : Stmt := topS 9
theorem sc__law_written : FnScope ["worth"] ["worth"] (defScope s__law_written) := ⟨rfl, rfl, rfl, by decide +kernel, rfl, by decide +kernel, by decide +kernel⟩
abbrev s__law_due : Stmt := topS 10
theorem sc__law_due : FnScope ["names", "table", "longest", "name", "widest", "row", "worth", "lines", "k", "line", "word"] ["names", "table"] (defScope s__law_due) := ⟨rfl, rfl, rfl, by decide +kernel, rfl, by decide +kernel, by decide +kernel⟩
abbrev s__law_right : Stmt := topS 11
theorem sc__law_right : FnScope ["names", "table", "passed_names", "passed_rows", "told", "row"] ["names", "table"] (defScope s__law_right) := ⟨rfl, rfl, rfl, by decide +kernel, rfl, by decide +kernel, by decide +kernel⟩
abbrev s_law : Stmt := topS 12
theorem sc_law : FnScope ["script", "bag", "many", "names", "table", "turned", "k", "out"] ["script"] (defScope s_law) := ⟨rfl, rfl, rfl, by decide +kernel, rfl, by decide +kernel, by decide +kernel⟩
structure Txt (K : PySem.W.Frag) (mg : Str → Option Value) : Prop where
  b_int : mg "int" = none
  b_isinstance : mg "isinstance" = none
  b_len : mg "len" = none
  b_list : mg "list" = none
  b_max : mg "max" = none
  b_min : mg "min" = none
  b_range : mg "range" = none
  b_str : mg "str" = none
  b_zip : mg "zip" = none

/-! the bag: six places, the first one the list of cells -/
def bagL (c : Addr) (x1 x2 x3 x4 x5 : Int) : List V := [.ref c, .int x1, .int x2, .int x3, .int x4, .int x5]
structure Bag (c b : Addr) (H : Hp) : Prop where
  ex : ∃ (cells : List Int) (x1 x2 x3 x4 x5 : Int), H b = some (.lst [.ref c, .int x1, .int x2, .int x3, .int x4, .int x5]) ∧ H c = some (.lst (cells.map V.int)) ∧ 0 ≤ x1
theorem Bag.upd {c b p : Addr} {H : Hp} {o : HO} (h : Bag c b H) (n1 : p ≠ b) (n2 : p ≠ c) : Bag c b (L2.upd H p o) := by
  obtain ⟨cells, x1, x2, x3, x4, x5, hb, hc, h1⟩ := h
  exact ⟨cells, x1, x2, x3, x4, x5, by rw [upd_ne n1.symm]; exact hb, by rw [upd_ne n2.symm]; exact hc, h1⟩
theorem Bag.new {c b p : Addr} {H : Hp} {o : HO} (h : Bag c b H) (n : H p = none) : Bag c b (L2.upd H p o) := by
  obtain ⟨cells, x1, x2, x3, x4, x5, hb, hc, h1⟩ := id h
  exact h.upd (ne_of_none hb n).symm (ne_of_none hc n).symm
def spBag (K : PySem.W.Frag) : Sp := fun vs H Q _ => ∃ (a : Addr) (ns : List Int), vs = [.ref a] ∧ SqL K H a (ns.map V.int) ∧ ns.length ≤ 63 ∧ ∀ c b H', H b = none → H c = none → Same H H' → Bag c b H' → Q (.ref b) H'
def spTake : Sp := fun vs H Q _ => ∃ (b c : Addr) (m : Int), vs = [.ref b, .int m] ∧ Bag c b H ∧ 1 ≤ m ∧ m ≤ 1000000 ∧ ∀ d H', 0 ≤ d → d < m → Kp b H H' → Bag c b H' → Q (.int d) H'
section
variable {P : Program} {w : World} {K : PySem.W.Frag} {mg : Str → Option Value} {base : Heap}
theorem ok__law_take (T : Txt K mg)  {f : Addr} {fd : FuncData} (F : Fun K "_law_take" "_law_take" s__law_take f fd) : FnOk P w K mg base CX0 1 f fd ["bag", "many"] spTake := by
  refine F.ok sc__law_take (fun vs H Q E h => ?_) (fun cdv A outer s H vs Q E hr h => ?_)
  · obtain ⟨b, c, m, rfl, _⟩ := h
    rfl
  obtain ⟨b, c, m, rfl, ⟨cells, x1, x2, x3, x4, x5, hb, hc, h1⟩, hm, hM, q⟩ := h
  refine ⟨_, (pss_cons (ps_if (pt_cmpR op_lt (pv 1) pe_int (nomark _)) (pss_one (ps_ret pe_int)) pss_nil)
      (pss_cons (ps_asg (pe_op op_add (pe_ix (kix_list K) (pv 0) pe_int (fun _ _ => rfl)) pe_int) (pg_sub (pv 0) pe_int set_list))
      (Evl.pss_cut (ps_if (PW.pt (pw_and (pt_cmpR op_eq (pe_ix (kix_list K) (pv 0) pe_int (fun _ _ => rfl)) pe_int (nomark _)) (pw_and1 (pt_cmpR op_lt (pe_ix (kix_list K) (pv 0) pe_int (fun _ _ => rfl)) (pe_callB (kcall_len_seq K) (by rfl) T.b_len (by decide +kernel) (pa_cons (pe_ix (kix_list K) (pv 0) pe_int (fun _ _ => rfl)) pa_nil)) (nomark _))))) (pss_cons (ps_asg (pe_ix (kix_list K) (pe_ix (kix_list K) (pv 0) pe_int (fun _ _ => rfl)) (pe_ix (kix_list K) (pv 0) pe_int (fun _ _ => rfl)) (fun _ _ => rfl)) (pg_sub (pv 0) pe_int set_list))
      (pss_cons (ps_asg (pe_op op_add (pe_ix (kix_list K) (pv 0) pe_int (fun _ _ => rfl)) pe_int) (pg_sub (pv 0) pe_int set_list))
      (pss_one (ps_asg (pe_ifExp (pt_cmpR op_ge (pe_ix (kix_list K) (pv 0) pe_int (fun _ _ => rfl)) (pe_op op_pow pe_int pe_int) (nomark _)) pe_int (pe_op op_sub pe_int pe_int)) (pg_sub (pv 0) pe_int set_list))))) pss_nil)
      (pss_cons (ps_if (pt_cmpR op_gt (pe_ix (kix_list K) (pv 0) pe_int (fun _ _ => rfl)) pe_int (nomark _)) (pss_cons (ps_set (i := 2) sc__law_take.nd rfl (.inl rfl) (pe_op op_mod (pe_callTy call_int1 (by rfl) T.b_int (by decide +kernel) (pa_cons (pe_ix (kix_list K) (pv 0) pe_int (fun _ _ => rfl)) pa_nil)) (pv 1)))
      (pss_cons (ps_asg (pe_op op_fdiv (pe_ix (kix_list K) (pv 0) pe_int (fun _ _ => rfl)) (pv 1)) (pg_sub (pv 0) pe_int set_list))
      (pss_cons (ps_asg (pe_ifExp (pt_cmpR op_gt (pe_ix (kix_list K) (pv 0) pe_int (fun _ _ => rfl)) pe_int (nomark _)) (pe_op op_sub (pe_ix (kix_list K) (pv 0) pe_int (fun _ _ => rfl)) pe_int) pe_int) (pg_sub (pv 0) pe_int set_list))
      (pss_one (ps_ret (pv 2)))))) pss_nil)
      (pss_cons (ps_set (i := 3) sc__law_take.nd rfl (.inl rfl) pe_int)
      (Evl.pss_cut (ps_if (pt_cmpR op_lt (pe_ix (kix_list K) (pv 0) pe_int (fun _ _ => rfl)) pe_int (nomark _)) (pss_cons (ps_asg (pe_op op_add (pe_ix (kix_list K) (pv 0) pe_int (fun _ _ => rfl)) pe_int) (pg_sub (pv 0) pe_int set_list))
      (pss_one (ps_set (i := 3) sc__law_take.nd rfl (.inl rfl) (pe_ix (kix_list K) (pv 0) pe_int (fun _ _ => rfl))))) pss_nil)
      (pss_cons (ps_asg (pe_op op_mod (pe_callTy call_int1 (by rfl) T.b_int (by decide +kernel) (pa_cons (pe_op op_add (pe_op op_add (pe_op op_mul (pe_ix (kix_list K) (pv 0) pe_int (fun _ _ => rfl)) pe_int) (pe_op op_mul (pv 3) pe_int)) (pe_ix (kix_list K) (pv 0) pe_int (fun _ _ => rfl))) pa_nil)) pe_int) (pg_sub (pv 0) pe_int set_list))
      (pss_cons (ps_set (i := 4) sc__law_take.nd rfl (.inl rfl) (pe_op op_mod (pe_callTy call_int1 (by rfl) T.b_int (by decide +kernel) (pa_cons (pe_op op_add (pe_op op_mul (pe_ix (kix_list K) (pv 0) pe_int (fun _ _ => rfl)) pe_int) (pe_op op_fdiv (pe_ix (kix_list K) (pv 0) pe_int (fun _ _ => rfl)) pe_int)) pa_nil)) pe_int))
      (pss_one (ps_ret (pe_op op_mod (pe_callTy call_int1 (by rfl) T.b_int (by decide +kernel) (pa_cons (pe_op op_fdiv (pv 4) pe_int) pa_nil)) (pv 1)))))))))))), ?_⟩
  rw [show (L2.start ["bag", "many", "digit", "cell", "mixed"] [.ref b, .int m] : L2.St) = [some (.ref b), some (.int m), none, none, none] from rfl]
  try simp only [WL.cxK]
  have nbc : b ≠ c := fun e => by
    subst e
    rw [hb] at hc
    have e2 := HO.lst.inj (Option.some.inj hc)
    cases cells with
    | nil => cases e2
    | cons z r => cases e2
  walk_at "go"
  refine g_ite (fun e => ?_) (fun e => ?_)
  · walk_at "go"
    exact q 0 H (by omega) (by omega) (Kp.refl H) ⟨cells, x1, x2, x3, x4, x5, hb, hc, h1⟩
  have nbc' : c ≠ b := nbc.symm
  have fin : ∀ d y1 y2 y3 y4 y5, 0 ≤ d → d < m → 0 ≤ y1 → Q (.int d) (upd H b (.lst [.ref c, .int y1, .int y2, .int y3, .int y4, .int y5])) := fun d y1 y2 y3 y4 y5 k1 k2 k3 =>
    q d _ k1 k2 (Kp.refl H).set ⟨cells, y1, y2, y3, y4, y5, upd_same, by walk_at "lk", k3⟩
  walk_at "go"
  -- the first if
  refine ⟨fun σ' H' => σ' = [some (.ref b), some (.int m), none, none, none] ∧ ∃ y1 y2 y3, H' = upd H b (.lst [.ref c, .int y1, .int y2, .int y3, .int x4, .int (x5 + 1)]) ∧ 0 ≤ y1, ?_, fun σ' H' hm' => ?_⟩
  · walk_at "go"
    refine g_iteI (fun e1 => ?_) (fun e1 => ?_)
    · walk_at "go"
      refine g_ite (fun e2 => ?_) (fun e2 => ?_)
      · walk_at "go"
        have hx : x1.toNat < cells.length := by rw [List.length_map] at e2; omega
        refine g_ixL (z := x1) (v := .int cells[x1.toNat]) (SqL.of (by walk_at "lk")) (at_of (j := x1.toNat) (by omega) (by rw [List.getElem?_map, List.getElem?_eq_getElem hx]; rfl)) ?_
        walk_at "go"
        refine g_ite (fun e3 => ?_) (fun e3 => ?_)
        · walk_at "go"
          exact ⟨rfl, x1 + 1, cells[x1.toNat], 60, rfl, by omega⟩
        · walk_at "go"
          exact ⟨rfl, x1 + 1, cells[x1.toNat], 0 - 6, rfl, by omega⟩
      · walk_at "go"
        exact ⟨rfl, x1, x2, x3, rfl, h1⟩
    · walk_at "go"
      exact ⟨rfl, x1, x2, x3, rfl, h1⟩
  obtain ⟨rfl, y1, y2, y3, rfl, k1⟩ := hm'
  walk_at "go"
  refine g_ite (fun e2 => ?_) (fun e2 => ?_)
  · walk_at "go"
    refine g_ite (fun e3 => ?_) (fun e3 => ?_)
    · walk_at "go"
      exact fin _ y1 _ _ _ _ (Int.emod_nonneg _ (by omega)) (Int.emod_lt_of_pos _ (by omega)) k1
    · walk_at "go"
      exact fin _ y1 _ _ _ _ (Int.emod_nonneg _ (by omega)) (Int.emod_lt_of_pos _ (by omega)) k1
  walk_at "go"
  refine ⟨fun σ' H' => (∃ z, σ' = [some (.ref b), some (.int m), none, some (.int z), none]) ∧ ∃ y3, H' = upd H b (.lst [.ref c, .int y1, .int y2, .int y3, .int x4, .int (x5 + 1)]), ?_, fun σ' H' hm' => ?_⟩
  · walk_at "go"
    refine g_ite (fun e3 => ?_) (fun e3 => ?_)
    · walk_at "go"
      exact ⟨⟨y2, rfl⟩, _, rfl⟩
    · walk_at "go"
      exact ⟨⟨0, rfl⟩, _, rfl⟩
  obtain ⟨⟨z, rfl⟩, y3, rfl⟩ := hm'
  walk_at "go"
  exact fin _ y1 _ _ _ _ (Int.emod_nonneg _ (by omega)) (Int.emod_lt_of_pos _ (by omega)) k1
end
end K41
set_option Elab.async false
set_option linter.all false
set_option maxHeartbeats 4000000
namespace K41
open PySem L2
/-! ### the mathematics: words, widths, lines as lists of signs -/
def okW : Option Int → Prop
  | none => True
  | some n => 0 ≤ n ∧ n ≤ 65535
def wV : Option Int → V
  | none => .non
  | some n => .int n
/-- the written worth -/
def wS : Option Int → Str
  | none => Str.ofString "-"
  | some n => Str.ofString (toString n)
/-- its signs -/
def wl (o : Option Int) : List Nat := (wS o).cps.toList
/-- the greatest length -/
def mx (l : List (List Nat)) : Nat := l.foldl (fun m w => max m w.length) 0
theorem mx_snoc (l : List (List Nat)) (w : List Nat) : mx (l ++ [w]) = max (mx l) w.length := by
  unfold mx; rw [List.foldl_append]; rfl
theorem foldl_le : ∀ (l : List (List Nat)) (a : Nat), a ≤ l.foldl (fun m w => max m w.length) a ∧ ∀ w ∈ l, w.length ≤ l.foldl (fun m w => max m w.length) a
  | [], a => ⟨Nat.le_refl _, fun _ h => by cases h⟩
  | x :: l, a => by
    obtain ⟨h1, h2⟩ := foldl_le l (max a x.length)
    refine ⟨Nat.le_trans (Nat.le_max_left _ _) h1, fun w hw => ?_⟩
    rcases List.mem_cons.mp hw with rfl | hw
    · exact Nat.le_trans (Nat.le_max_right _ _) h1
    · exact h2 w hw
theorem mx_ge {l : List (List Nat)} {w : List Nat} (h : w ∈ l) : w.length ≤ mx l := (foldl_le l 0).2 w h
theorem foldl_mem : ∀ (l : List (List Nat)) (a : Nat), l.foldl (fun m w => max m w.length) a = a ∨ ∃ w ∈ l, l.foldl (fun m w => max m w.length) a = w.length
  | [], a => .inl rfl
  | x :: l, a => by
    rcases foldl_mem l (max a x.length) with h | ⟨w, hw, h⟩
    · show l.foldl _ (max a x.length) = a ∨ _
      by_cases hx : x.length ≤ a
      · exact .inl (by rw [h]; omega)
      · exact .inr ⟨x, List.mem_cons_self, by show l.foldl _ (max a x.length) = _; rw [h]; omega⟩
    · exact .inr ⟨w, List.mem_cons_of_mem _ hw, h⟩
theorem mx_le {l : List (List Nat)} {B : Nat} (h : ∀ w ∈ l, w.length ≤ B) : mx l ≤ B := by
  rcases foldl_mem l 0 with e | ⟨w, hw, e⟩
  · unfold mx; omega
  · unfold mx; rw [e]; exact h w hw
/-- what a greatest length is -/
theorem mx_is {l : List (List Nat)} {m : Int} (h1 : m ∈ l.map fun w => (w.length : Int)) (h2 : ∀ y ∈ l.map (fun w => (w.length : Int)), y ≤ m) : m = (mx l : Nat) := by
  obtain ⟨w, hw, rfl⟩ := List.mem_map.mp h1
  have a := mx_ge hw
  have b := mx_le (l := l) (B := w.length) fun u hu => by
    have := h2 _ (List.mem_map.mpr ⟨u, hu, rfl⟩)
    omega
  omega
def sp (n : Nat) : List Nat := List.replicate n 32
def lineL (L W : Nat) (name : List Nat) (row : List (List Nat)) : List Nat := name ++ sp (L - name.length) ++ (row.map fun w => 32 :: (sp (W - w.length) ++ w)).flatten
theorem line_join (L W : Nat) (name : List Nat) (row : List (List Nat)) : TL.joinL [32] ((name ++ sp (L - name.length)) :: row.map fun w => sp (W - w.length) ++ w) = lineL L W name row := by
  unfold lineL
  generalize name ++ sp (L - name.length) = a
  induction row generalizing a with
  | nil => show a = a ++ []; rw [List.append_nil]
  | cons w r ih =>
    show a ++ ([32] ++ TL.joinL [32] ((sp (W - w.length) ++ w) :: r.map fun w => sp (W - w.length) ++ w)) = a ++ ((32 :: (sp (W - w.length) ++ w)) ++ (r.map fun w => 32 :: (sp (W - w.length) ++ w)).flatten)
    rw [ih]
    simp
theorem line_snoc (L W : Nat) (name : List Nat) (row : List (List Nat)) (w : List Nat) : lineL L W name (row ++ [w]) = lineL L W name row ++ [32] ++ sp (W - w.length) ++ w := by
  unfold lineL
  simp
/-- the text of a table -/
def textL (names : List (List Nat)) (rows : List (List (List Nat))) : List Nat :=
  TL.joinL [10] ((names.zip rows).map fun p => lineL (mx names) (mx rows.flatten) p.1 p.2)
theorem line_len {L W : Nat} {name : List Nat} {row : List (List Nat)} {n : Nat} (h1 : name.length ≤ L) (h2 : ∀ w ∈ row, w.length ≤ W) (h3 : row.length ≤ n) : (lineL L W name row).length ≤ L + n * (W + 1) := by
  unfold lineL
  have e : ∀ (r : List (List Nat)), (∀ w ∈ r, w.length ≤ W) → ((r.map fun w => 32 :: (sp (W - w.length) ++ w)).flatten).length = r.length * (W + 1) := by
    intro r
    induction r with
    | nil => intro _; simp
    | cons w r ih =>
      intro h
      have hw := h w List.mem_cons_self
      have := ih fun u hu => h u (List.mem_cons_of_mem _ hu)
      have hs : (sp (W - w.length)).length = W - w.length := List.length_replicate
      rw [List.map_cons, List.flatten_cons, List.length_append, this, List.length_cons, List.length_append, hs, List.length_cons, Nat.succ_mul]
      omega
  rw [List.length_append, e row h2, List.length_append]
  have : row.length * (W + 1) ≤ n * (W + 1) := Nat.mul_le_mul_right _ h3
  simp only [sp, List.length_replicate]
  omega
theorem num_len {n : Int} (h0 : 0 ≤ n) (h : n ≤ 65535) : (wl (some n)).length ≤ 5 := by
  obtain ⟨k, rfl⟩ : ∃ k : Nat, n = k := ⟨n.toNat, by omega⟩
  show (TL.tl (Str.ofString (toString ((k : Nat) : Int)))).length ≤ 5
  rw [TL.tl_num]
  exact TL.numL_len (by decide) (by omega)
theorem wl_len {o : Option Int} (h : okW o) : (wl o).length ≤ 5 := by
  cases o with
  | none => decide
  | some n => exact num_len h.1 h.2
end K41
set_option Elab.async false
set_option linter.all false
set_option maxRecDepth 100000
set_option maxHeartbeats 4000000
namespace K41
open PySem PySem.Spec PyProof.Rows L2 WL
local macro_rules | `(tactic| walk_at "lk") => `(tactic| first
  | exact upd_same
  | assumption
  | (rw [upd_ne (by assumption)]; first | exact upd_same | assumption | (rw [upd_ne (by assumption)]; first | exact upd_same | assumption | (rw [upd_ne (by assumption)]; first | exact upd_same | assumption))))
local macro_rules | `(tactic| walk_at "go1") => `(tactic| first
  | (with_reducible refine g_seq ?_)
  | (with_reducible refine g_asg ?_)
  | (with_reducible refine g_name ?_)
  | (with_reducible refine g_sub ?_)
  | ((with_reducible refine' g_var ?gv ?_); (case gv => exact rfl))
  | (with_reducible refine g_c ?_)
  | (with_reducible refine g_op ?_)
  | (with_reducible refine g_un ?_)
  | (with_reducible refine g_I0 ?_)
  | ((with_reducible refine g_I ?gc ?_); (case gc => first | assumption | decide | (show (0 : Int) < _; omega) | exact Or.inr ⟨by omega, by omega⟩ | exact Or.inl ⟨by omega, by omega⟩ | exact ⟨by omega, by omega⟩))
  | (with_reducible refine iteT ?_)
  | (with_reducible refine iteF ?_)
  | (with_reducible refine iteNT ?_)
  | (with_reducible refine iteNF ?_)
  | (with_reducible refine g_andV ?_)
  | (with_reducible refine g_orV ?_)
  | ((with_reducible refine' g_lenS (by assumption) ?_))
  | ((with_reducible refine' g_lenS (SqL.of (by walk_at "lk")) ?_))
  | (with_reducible refine g_U ?_)
  | ((with_reducible refine g_eq ?gs ?_); (case gs => rfl))
  | ((with_reducible refine g_ne ?gs ?_); (case gs => rfl))
  | (with_reducible refine g_drop ?_)
  | (with_reducible refine g_ret ?_)
  | (with_reducible refine g_next ?_)
  | (with_reducible refine g_ifS ?_)
  | (with_reducible refine g_ifE ?_)
  | (with_reducible refine g_test ?_)
  | (with_reducible refine g_tb ?_)
  | (with_reducible refine g_bl ?_)
  | (with_reducible refine g_not ?_)
  | (with_reducible refine g_and ?_)
  | (with_reducible refine g_or ?_)
  | (with_reducible refine g_nil ?_)
  | (with_reducible refine g_cons ?_)
  | (with_reducible refine g_cb ?_)
  | (with_reducible refine g_call ?_)
  | (with_reducible refine g_int ?_)
  | (with_reducible refine g_two ?_)
  | ((with_reducible refine g_lenStr ?gz ?_); (case gz => first | assumption | exact sz_le (by omega)))
  | (with_reducible refine g_m1 ?_)
  | (with_reducible refine g_isS ?_)
  | (with_reducible refine g_nn ?_)
  | (with_reducible refine g_yes ?_)
  | (with_reducible refine g_for ?_)
  | (with_reducible refine g_ckw ?_)
  | (with_reducible refine g_iZip ?_)
  | (with_reducible refine g_lc ?_)
  | (with_reducible refine g_lc2 ?_)
  | (with_reducible refine g_iList ?_)
  | (with_reducible refine g_iRng1 ?_)
  | (with_reducible refine g_iRng2 ?_)
  | (with_reducible refine g_sl ?_)
  | (with_reducible refine g_noPart ?_)
  | (with_reducible refine g_part ?_)
  | (with_reducible refine g_ex1 ?_)
  | (with_reducible refine g_bm ?_)
  | ((with_reducible refine' g_tyL (by walk_at "lk") ?_))
  | (with_reducible refine g_lst ?_)
  | (with_reducible refine g_tup ?_)
  | ((with_reducible refine' g_ixL (by assumption) ?ga ?_); (case ga => assumption))
  | ((with_reducible refine' g_ixL (SqL.of (by walk_at "lk")) ?ga ?_); (case ga => first | exact rfl | assumption))
  | ((with_reducible refine' g_setL2 ?ga ?gb ?_); (case ga => exact rfl); (case gb => exact rfl))
  | ((with_reducible refine' g_setL (by walk_at "lk") ?ga ?gb ?_); (case ga => exact rfl); (case gb => exact rfl)))
local macro_rules | `(tactic| walk_at "go") => `(tactic| ((repeat walk_at "go1"); try dsimp only [List.set, List.cons_append, List.nil_append]))
def spName : Sp := fun vs H Q _ => ∃ (b c : Addr), vs = [.ref b] ∧ Bag c b H ∧ ∀ (z : Str) H', z.length ≤ 60 → PyData.strOk z = true → Kp b H H' → Bag c b H' → Q (.str z) H'
def spWorth : Sp := fun vs H Q _ => ∃ (b c : Addr), vs = [.ref b] ∧ Bag c b H ∧ ∀ (o : Option Int) H', okW o → Kp b H H' → Bag c b H' → Q (wV o) H'
def spNames : Sp := fun vs H Q _ => ∃ (b c : Addr) (n : Nat), vs = [.ref b, .int n] ∧ Bag c b H ∧ n ≤ 30 ∧ ∀ p (nms : List Str) H', H p = none → Kp b H H' → Bag c b H' → H' p = some (.lst (nms.map V.str)) → nms.length = n → (∀ z ∈ nms, z.length ≤ 60 ∧ PyData.strOk z = true) → Q (.ref p) H'
theorem g_take {b c : Addr} {m : Int} {H : Hp} {Q : VK} {E : XK} (hB : Bag c b H) (h1 : 1 ≤ m) (h2 : m ≤ 1000000) (k : ∀ d H', 0 ≤ d → d < m → Kp b H H' → Bag c b H' → Q (.int d) H') : spTake [.ref b, .int m] H Q E := ⟨b, c, m, rfl, hB, h1, h2, k⟩
section
variable {P : Program} {w : World} {K : PySem.W.Frag} {mg : Str → Option Value} {base : Heap}
theorem ok__law_bag (T : Txt K mg)  {f : Addr} {fd : FuncData} (F : Fun K "_law_bag" "_law_bag" s__law_bag f fd) : FnOk P w K mg base CX0 1 f fd ["script"] (spBag K) := by
  refine F.ok sc__law_bag (fun vs H Q E h => ?_) (fun cdv A outer s H vs Q E hr h => ?_)
  · obtain ⟨a, ns, rfl, _⟩ := h
    rfl
  obtain ⟨a, ns, rfl, hS, hl, q⟩ := h
  refine ⟨_, (pss_cons (ps_set (i := 1) sc__law_bag.nd rfl (.inl rfl) (pe_op op_pow pe_int pe_int))
      (pss_cons (ps_set (i := 2) sc__law_bag.nd rfl (.inl rfl) (pe_lst pa_nil))
      (pss_cons (ps_set (i := 3) sc__law_bag.nd rfl (.inl rfl) pe_int)
      (pss_cons (ps_for PassesOwn.never rfl (kpi_list K (pe_slice (ksl_list K) (pv 0) po_none (po_some pe_int))) (pg_name (i := 4) sc__law_bag.nd rfl (.inl rfl)) (pss_cons (ps_set (i := 5) sc__law_bag.nd rfl (.inl rfl) (pe_ifExp (pt_cmpR op_ge (pv 4) pe_int (nomark _)) (pe_callTy call_int1 (by rfl) T.b_int (by decide +kernel) (pa_cons (pv 4) pa_nil)) (pe_op op_sub pe_int (pe_op op_mul pe_int (pe_callTy call_int1 (by rfl) T.b_int (by decide +kernel) (pa_cons (pv 4) pa_nil))))))
      (pss_cons (ps_expr (kpe_bm K PySem.F.plainAttrs_list PySem.F.slot_list_append PySem.F.type_list_append mt_append (pv 2) (pa_cons (pe_op op_mod (pe_callTy call_int1 (by rfl) T.b_int (by decide +kernel) (pa_cons (pv 5) pa_nil)) (pe_op op_mulW (pe_op op_mulW (pv 1) (pv 1)) (pv 1))) pa_nil)))
      (pss_one (ps_set (i := 3) sc__law_bag.nd rfl (.inl rfl) (pe_op op_mod (pe_callTy call_int1 (by rfl) T.b_int (by decide +kernel) (pa_cons (pe_op op_add (pe_op op_add (pe_op op_mul (pv 3) pe_int) (pe_op op_mod (pv 5) pe_int)) pe_int) pa_nil)) pe_int))))))
      (pss_one (ps_ret (pe_lst (pa_cons (pv 2) (pa_cons pe_int (pa_cons pe_int (pa_cons pe_int (pa_cons (pv 3) (pa_cons pe_int pa_nil))))))))))))), ?_⟩
  rw [show (L2.start ["script", "wide", "cells", "seed", "cell", "number"] [.ref a] : L2.St) = [some (.ref a), none, none, none, none, none] from rfl]
  try simp only [WL.cxK]
  walk_at "go"
  refine ⟨by decide, fun cl ncl => ?_⟩
  walk_at "go"
  have s1 : Same H (upd H cl (.lst [])) := same_new ncl
  refine g_slL (s1.seq hS) (cut_to _ 63) fun sl nsl => ?_
  rw [List.take_of_length_le (by rw [List.length_map]; exact hl)]
  have s2 : Same (upd H cl (.lst [])) (upd (upd H cl (.lst [])) sl (.lst (ns.map V.int))) := same_new nsl
  have nsc : sl ≠ cl := fun e => by rw [e, upd_same] at nsl; cases nsl
  refine f_list (xs := ns.map V.int) (.inl (.inl upd_same)) (fun i σ H' => ∃ (cs : List Int) (sd : Int) (y z : Option V), σ = [some (.ref a), some (.int (10 ^ Int.toNat 64)), some (.ref cl), some (.int sd), y, z] ∧ cs.length = i ∧ Same H H' ∧ H' cl = some (.lst (cs.map V.int)) ∧ H' sl = some (.lst (ns.map V.int)))
    ⟨[], 2, none, none, rfl, rfl, s1.trans s2, by rw [upd_ne nsc.symm, upd_same]; rfl, upd_same⟩ (fun i σ H' _ ⟨_, _, _, _, _, _, _, _, h5⟩ => .inl (.inl h5)) (fun i x σ H' hx hP => ?_) (fun σ H' hP => ?_)
  · obtain ⟨cs, sd, y, z, rfl, hi, hs, hc, hsl⟩ := hP
    obtain ⟨n, hn, rfl⟩ := map_at hx
    have hlt := lt_at hn
    have fin : ∀ (m sd' : Int) (y z : Option V), ∃ (cs' : List Int) (sd'' : Int) (y' z' : Option V), ([some (.ref a), some (.int (10 ^ Int.toNat 64)), some (.ref cl), some (.int sd'), y, z] : L2.St) = [some (.ref a), some (.int (10 ^ Int.toNat 64)), some (.ref cl), some (.int sd''), y', z'] ∧ cs'.length = i + 1 ∧ Same H (upd H' cl (.lst (cs.map V.int ++ [.int m]))) ∧ (upd H' cl (.lst (cs.map V.int ++ [.int m]))) cl = some (.lst (cs'.map V.int)) ∧ (upd H' cl (.lst (cs.map V.int ++ [.int m]))) sl = some (.lst (ns.map V.int)) :=
      fun m sd' y z => ⟨cs ++ [m], sd', y, z, rfl, by simp [hi], same_mut hs ncl, by rw [upd_same, List.map_append]; rfl, by rw [upd_ne nsc]; exact hsl⟩
    have hM : CMulW (10 ^ Int.toNat 64) (10 ^ Int.toNat 64) := by unfold CMulW; decide +kernel
    have hM2 : CMulW (10 ^ Int.toNat 64 * 10 ^ Int.toNat 64) (10 ^ Int.toNat 64) := by unfold CMulW; decide +kernel
    have hM3 : (0 : Int) < 10 ^ Int.toNat 64 * 10 ^ Int.toNat 64 * 10 ^ Int.toNat 64 := by decide +kernel
    walk_at "go"
    refine g_ite (fun e => ?_) (fun e => ?_)
    · walk_at "go"
      refine g_app (by walk_at "lk") (sz_lt (by rw [List.length_map]; omega)) ?_
      walk_at "go"
      exact fin _ _ _ _
    · walk_at "go"
      refine g_app (by walk_at "lk") (sz_lt (by rw [List.length_map]; omega)) ?_
      walk_at "go"
      exact fin _ _ _ _
  · obtain ⟨cs, sd, y, z, rfl, hi, hs, hc, hsl⟩ := hP
    walk_at "go"
    refine ⟨sz_le (n := 6) (by decide), fun b nb => ?_⟩
    have hcb : cl ≠ b := ne_of_none hc nb
    exact q cl b _ (hs.free nb) ncl (hs.trans (same_new nb)) ⟨cs, 0, 0, 0, sd, 0, upd_same, by rw [upd_ne hcb]; exact hc, Int.le_refl _⟩
theorem ok__law_name (T : Txt K mg) (c__law_take : C8.Cal P w K mg base 1 "_law_take" spTake []) {f : Addr} {fd : FuncData} (F : Fun K "_law_name" "_law_name" s__law_name f fd) : FnOk P w K mg base CX0 2 f fd ["bag"] spName := by
  refine F.ok sc__law_name (fun vs H Q E h => ?_) (fun cdv A outer s H vs Q E hr h => ?_)
  · obtain ⟨b, c, rfl, _⟩ := h
    rfl
  obtain ⟨b, c, rfl, hB, q⟩ := h
  refine ⟨_, (pss_cons (ps_set (i := 1) sc__law_name.nd rfl (.inl rfl) pe_str)
      (pss_cons (ps_set (i := 2) sc__law_name.nd rfl (.inl rfl) (pe_op op_add pe_int (C8.pe_c c__law_take hr (by decide) (by rfl) (pa_cons (pv 0) (pa_cons pe_int pa_nil)))))
      (Evl.pss_cut (ps_if (pt_cmpR op_eq (C8.pe_c c__law_take hr (by decide) (by rfl) (pa_cons (pv 0) (pa_cons pe_int pa_nil))) pe_int (nomark _)) (pss_one (ps_set (i := 2) sc__law_name.nd rfl (.inl rfl) (pe_op op_add (pv 2) pe_int))) pss_nil)
      (pss_cons (ps_set (i := 3) sc__law_name.nd rfl (.inl rfl) pe_str)
      (pss_cons (ps_for PassesOwn.never rfl (pi_range1 (by rfl) T.b_range (pa_cons (pv 2) pa_nil)) (pg_name (i := 4) sc__law_name.nd rfl (.inl rfl)) (pss_one (ps_set (i := 3) sc__law_name.nd rfl (.inl rfl) (pe_op op_add_str (pv 3) (pe_ix ix_str (pv 1) (C8.pe_c c__law_take hr (by decide) (by rfl) (pa_cons (pv 0) (pa_cons pe_int pa_nil))) (fun _ _ => rfl))))))
      (pss_one (ps_ret (pv 3)))))))), ?_⟩
  rw [show (L2.start ["bag", "signs", "size", "name", "k"] [.ref b] : L2.St) = [some (.ref b), none, none, none, none] from rfl]
  try simp only [WL.cxK]
  walk_at "go"
  refine g_take hB (by decide) (by decide) fun d H1 d0 d1 k1 B1 => ?_
  walk_at "go"
  refine ⟨fun σ' H' => ∃ n : Int, σ' = [some (.ref b), some (.str (Str.ofString "abcdefghijklmnopqrstuvwxyz0123456789._@")), some (.int n), none, none] ∧ 0 ≤ n ∧ n ≤ 60 ∧ Kp b H H' ∧ Bag c b H', ?_, fun σ' H' hm => ?_⟩
  · walk_at "go"
    refine g_take B1 (by decide) (by decide) fun d2 H2 _ _ k2 B2 => ?_
    walk_at "go"
    refine g_iteI (fun e => ?_) (fun e => ?_)
    · walk_at "go"
      exact ⟨_, rfl, by omega, by omega, k1.trans k2, B2⟩
    · walk_at "go"
      exact ⟨_, rfl, by omega, by omega, k1.trans k2, B2⟩
  obtain ⟨n, rfl, n0, n1, k2, B2⟩ := hm
  walk_at "go"
  refine f_rng1 (z := n) (by omega) (by omega) (fun i σ' H' => ∃ (z : Str) (y : Option V), σ' = [some (.ref b), some (.str (Str.ofString "abcdefghijklmnopqrstuvwxyz0123456789._@")), some (.int n), some (.str z), y] ∧ z.length = i ∧ PyData.strOk z = true ∧ Kp b H H' ∧ Bag c b H')
    ⟨Str.ofString "", none, rfl, by decide +kernel, by decide +kernel, k2, B2⟩ (fun i σ' H' hi hP => ?_) (fun σ' H' hP => ?_)
  · obtain ⟨z, y, rfl, hz, ho, k3, B3⟩ := hP
    walk_at "go"
    refine g_take B3 (by decide) (by decide) fun d3 H3 e0 e1 k4 B4 => ?_
    have hL : (Str.ofString "abcdefghijklmnopqrstuvwxyz0123456789._@").cps.toList.length = 39 := by decide +kernel
    have hd : d3.toNat < (Str.ofString "abcdefghijklmnopqrstuvwxyz0123456789._@").cps.toList.length := by omega
    refine g_ixS (z := d3) (by decide +kernel) (at_z (z := d3) (j := d3.toNat) (by omega) (List.getElem?_eq_getElem hd)) ?_
    refine ⟨_, _, rfl, rfl, ?_, ?_⟩
    · have : z.length ≤ 60 := by omega
      show z.length + 1 ≤ sizeLine; exact sz_le (by omega)
    walk_at "go"
    refine ⟨_, _, rfl, ?_, ?_, k3.trans k4, B4⟩
    · rw [WL.len_cat, hz]; rfl
    · exact strOk_cat ho (strOk_sign (x := Str.ofString "abcdefghijklmnopqrstuvwxyz0123456789._@") (by decide +kernel) (List.getElem_mem hd))
  · obtain ⟨z, y, rfl, hz, ho, k3, B3⟩ := hP
    walk_at "go"
    exact q z _ (by omega) ho k3 B3
theorem ok__law_worth (T : Txt K mg) (c__law_take : C8.Cal P w K mg base 1 "_law_take" spTake []) {f : Addr} {fd : FuncData} (F : Fun K "_law_worth" "_law_worth" s__law_worth f fd) : FnOk P w K mg base CX0 2 f fd ["bag"] spWorth := by
  refine F.ok sc__law_worth (fun vs H Q E h => ?_) (fun cdv A outer s H vs Q E hr h => ?_)
  · obtain ⟨b, c, rfl, _⟩ := h
    rfl
  obtain ⟨b, c, rfl, hB, q⟩ := h
  refine ⟨_, (pss_cons (ps_set (i := 1) sc__law_worth.nd rfl (.inl rfl) (C8.pe_c c__law_take hr (by decide) (by rfl) (pa_cons (pv 0) (pa_cons pe_int pa_nil))))
      (pss_cons (ps_if (pt_cmpR op_gt (pv 1) pe_int (nomark _)) (pss_one (ps_ret pe_non)) pss_nil)
      (pss_one (ps_ret (C8.pe_c c__law_take hr (by decide) (by rfl) (pa_cons (pv 0) (pa_cons (pe_ix (kix_list K) (pe_lst (pa_cons pe_int (pa_cons pe_int (pa_cons pe_int (pa_cons pe_int (pa_cons pe_int pa_nil)))))) (pv 1) (fun _ _ => rfl)) pa_nil))))))), ?_⟩
  rw [show (L2.start ["bag", "size"] [.ref b] : L2.St) = [some (.ref b), none] from rfl]
  try simp only [WL.cxK]
  walk_at "go"
  refine g_take hB (by decide) (by decide) fun d H1 d0 d1 k1 B1 => ?_
  walk_at "go"
  refine g_ite (fun e => ?_) (fun e => ?_)
  · walk_at "go"
    exact q none _ trivial k1 B1
  walk_at "go"
  refine ⟨sz_le (n := 5) (by decide), fun t nt => ?_⟩
  walk_at "go"
  have nb : b ≠ t := fun e => by obtain ⟨cells, x1, x2, x3, x4, x5, hb, _⟩ := B1; rw [e, nt] at hb; cases hb
  have B1' : Bag c b (upd H1 t (.lst [V.int 10, V.int 100, V.int 1000, V.int 10000, V.int 65536])) := by
    obtain ⟨cells, x1, x2, x3, x4, x5, hb, hc, h1⟩ := B1
    exact ⟨cells, x1, x2, x3, x4, x5, by rw [upd_ne nb]; exact hb, by rw [upd_ne (ne_of_none hc nt)]; exact hc, h1⟩
  have hd : d = 0 ∨ d = 1 ∨ d = 2 ∨ d = 3 ∨ d = 4 := by omega
  rcases hd with rfl | rfl | rfl | rfl | rfl
  all_goals
    walk_at "go"
    refine g_take B1' (by decide) (by decide) fun d3 H3 e0 e1 k4 B4 => ?_
    exact q (some d3) H3 ⟨e0, by omega⟩ ((k1.new nt).trans k4) B4
theorem ok__law_names (T : Txt K mg) (c__law_take : C8.Cal P w K mg base 1 "_law_take" spTake []) (c__law_name : C8.Cal P w K mg base 2 "_law_name" spName []) {f : Addr} {fd : FuncData} (F : Fun K "_law_names" "_law_names" s__law_names f fd) : FnOk P w K mg base CX0 3 f fd ["bag", "many"] spNames := by
  refine F.ok sc__law_names (fun vs H Q E h => ?_) (fun cdv A outer s H vs Q E hr h => ?_)
  · obtain ⟨b, c, n, rfl, _⟩ := h
    rfl
  obtain ⟨b, c, n, rfl, hB, hn, q⟩ := h
  refine ⟨_, (pss_cons (ps_set (i := 2) sc__law_names.nd rfl (.inl rfl) (pe_lst pa_nil))
      (pss_cons (ps_for PassesOwn.never rfl (pi_range1 (by rfl) T.b_range (pa_cons (pv 1) pa_nil)) (pg_name (i := 3) sc__law_names.nd rfl (.inl rfl)) (pss_one (ps_if (PW.pt (pw_and (pt_cmpR (kop_neD K hr.units) (pv 2) (pe_lst pa_nil) (nomark _)) (pw_and1 (pt_cmpR op_eq (C8.pe_c c__law_take hr (by decide) (by rfl) (pa_cons (pv 0) (pa_cons pe_int pa_nil))) pe_int (nomark _))))) (pss_one (ps_expr (kpe_bm K PySem.F.plainAttrs_list PySem.F.slot_list_append PySem.F.type_list_append mt_append (pv 2) (pa_cons (pe_ix (kix_list K) (pv 2) (C8.pe_c c__law_take hr (by decide) (by rfl) (pa_cons (pv 0) (pa_cons (pe_callB (kcall_len_seq K) (by rfl) T.b_len (by decide +kernel) (pa_cons (pv 2) pa_nil)) pa_nil))) (fun _ _ => rfl)) pa_nil)))) (pss_one (ps_expr (kpe_bm K PySem.F.plainAttrs_list PySem.F.slot_list_append PySem.F.type_list_append mt_append (pv 2) (pa_cons (C8.pe_c c__law_name hr (by decide) (by rfl) (pa_cons (pv 0) pa_nil)) pa_nil)))))))
      (pss_one (ps_ret (pv 2))))), ?_⟩
  rw [show (L2.start ["bag", "many", "names", "k"] [.ref b, .int n] : L2.St) = [some (.ref b), some (.int n), none, none] from rfl]
  try simp only [WL.cxK]
  walk_at "go"
  refine ⟨by decide, fun p np => ?_⟩
  walk_at "go"
  have nbp : ∀ {H1 : Hp}, Kp b H H1 → p ≠ b := fun _ e => by
    obtain ⟨cells, x1, x2, x3, x4, x5, hb, _⟩ := hB; rw [e, hb] at np; cases np
  have npb : p ≠ b := nbp (Kp.refl H)
  have npc : p ≠ c := fun e => by
    obtain ⟨cells, x1, x2, x3, x4, x5, _, hc, _⟩ := hB; rw [e, hc] at np; cases np
  refine f_rng1 (by omega) (by omega) (fun i σ' H' => ∃ (nms : List Str) (y : Option V), σ' = [some (.ref b), some (.int n), some (.ref p), y] ∧ nms.length = i ∧ (∀ z ∈ nms, z.length ≤ 60 ∧ PyData.strOk z = true) ∧ Kp b H H' ∧ Bag c b H' ∧ H' p = some (.lst (nms.map V.str)))
    ⟨[], none, rfl, rfl, (fun _ h => by cases h), (Kp.refl H).new np, hB.upd npb npc, upd_same⟩ (fun i σ' H' hi hP => ?_) (fun σ' H' hP => ?_)
  · obtain ⟨nms, y, rfl, hl, hz, k1, B1, hp⟩ := hP
    have hil : i < n := by omega
    walk_at "go"
    refine ⟨by decide, fun e ne => ?_⟩
    have hp1 : (upd H' e (.lst [])) p = some (.lst (nms.map V.str)) := by rw [upd_ne (ne_of_none hp ne)]; exact hp
    have k2 : Kp b H (upd H' e (.lst [])) := k1.new ne
    have B2 : Bag c b (upd H' e (.lst [])) := B1.new ne
    refine ⟨_, _, .lst (SqL.of hp1) (dpAll_strs nms), .lst (SqL.of upd_same) .nil, shaped_strs fun z hz' => (hz z hz').2, rfl, ?_⟩
    have last : ∀ H3, Kp b H H3 → Bag c b H3 → H3 p = some (.lst (nms.map V.str)) → ∀ (z : Str), z.length ≤ 60 → PyData.strOk z = true → ∃ (nms' : List Str) (y : Option V), ([some (.ref b), some (.int n), some (.ref p), some (.int i)] : L2.St) = [some (.ref b), some (.int n), some (.ref p), y] ∧ nms'.length = i + 1 ∧ (∀ z ∈ nms', z.length ≤ 60 ∧ PyData.strOk z = true) ∧ Kp b H (upd H3 p (.lst (nms.map V.str ++ [V.str z]))) ∧ Bag c b (upd H3 p (.lst (nms.map V.str ++ [V.str z]))) ∧ (upd H3 p (.lst (nms.map V.str ++ [V.str z]))) p = some (.lst (nms'.map V.str)) :=
      fun H3 k B h3 z z1 z2 => ⟨nms ++ [z], _, rfl, by simp [hl], fun u hu => by
        rcases List.mem_append.mp hu with hu | hu
        · exact hz u hu
        · rw [List.mem_singleton.mp hu]; exact ⟨z1, z2⟩, k.mut np, B.upd npb npc, by rw [upd_same, List.map_append]; rfl⟩
    have two : ∀ (D : Ends), (∀ σ' H', (∃ (nms : List Str) (y : Option V), σ' = [some (.ref b), some (.int n), some (.ref p), y] ∧ nms.length = i + 1 ∧ (∀ z ∈ nms, z.length ≤ 60 ∧ PyData.strOk z = true) ∧ Kp b H H' ∧ Bag c b H' ∧ H' p = some (.lst (nms.map V.str))) → D.nx σ' H') → ∀ H2, Kp b H H2 → Bag c b H2 → H2 p = some (.lst (nms.map V.str)) → tDrop (tBM K "list" rAppend (tVar 2) (tCons (tCall spName [] C8.E0 (tCons (tVar 0) tNil)) tNil)) D [some (.ref b), some (.int n), some (.ref p), some (.int i)] H2 := fun D hD H2 k B h2 => by
      walk_at "go"
      refine ⟨b, c, rfl, B, fun z H3 z1 z2 k3 B3 => ?_⟩
      walk_at "go"
      refine g_app (k3 _ _ h2 npb) (sz_lt (by rw [List.length_map]; omega)) ?_
      exact hD _ _ (last H3 (k.trans k3) B3 (k3 _ _ h2 npb) z z1 z2)
    rw [show (!PyData.eqv (.list (nms.map PyData.str)) (.list [])) = !nms.isEmpty by cases nms <;> rfl]
    walk_at "go"
    refine g_iteB (fun e1 => ?_) (fun e1 => ?_)
    · have hpos : 1 ≤ nms.length := by cases nms with | nil => cases e1 | cons _ _ => simp
      walk_at "go"
      refine g_take B2 (by decide) (by decide) fun d H3 _ _ k3 B3 => ?_
      have h3 : H3 p = some (.lst (nms.map V.str)) := k3 _ _ hp1 npb
      walk_at "go"
      refine g_iteI (fun e2 => ?_) (fun e2 => ?_)
      · walk_at "go"
        rw [List.length_map]
        refine g_take B3 (by omega) (by omega) fun d2 H4 f0 f1 k4 B4 => ?_
        have h4 : H4 p = some (.lst (nms.map V.str)) := k4 _ _ h3 npb
        have hd : d2.toNat < nms.length := by omega
        refine g_ixL (z := d2) (v := .str nms[d2.toNat]) (SqL.of h4) (at_of (j := d2.toNat) (by omega) (by rw [List.getElem?_map, List.getElem?_eq_getElem hd]; rfl)) ?_
        walk_at "go"
        refine g_app h4 (sz_lt (by rw [List.length_map]; omega)) ?_
        have hh := hz _ (List.getElem_mem hd)
        exact last H4 ((k2.trans k3).trans k4) B4 h4 _ hh.1 hh.2
      · refine two _ ?_ H3 (k2.trans k3) B3 h3; exact fun _ _ h => h
    · refine iteF ?_
      refine two _ ?_ _ k2 B2 hp1; exact fun _ _ h => h
  · obtain ⟨nms, y, rfl, hl, hz, k1, B1, hp⟩ := hP
    walk_at "go"
    exact q p nms H' np k1 B1 hp (by omega) hz
end
end K41
set_option Elab.async false
set_option linter.all false
set_option maxRecDepth 100000
set_option maxHeartbeats 4000000
namespace K41
open PySem PySem.Spec PyProof.Rows L2 WL
local macro_rules | `(tactic| walk_at "lk") => `(tactic| first
  | exact upd_same
  | assumption
  | (rw [upd_ne (by assumption)]; first | exact upd_same | assumption | (rw [upd_ne (by assumption)]; first | exact upd_same | assumption | (rw [upd_ne (by assumption)]; first | exact upd_same | assumption))))
local macro_rules | `(tactic| walk_at "go1") => `(tactic| first
  | (with_reducible refine g_seq ?_)
  | (with_reducible refine g_asg ?_)
  | (with_reducible refine g_name ?_)
  | (with_reducible refine g_sub ?_)
  | ((with_reducible refine' g_var ?gv ?_); (case gv => exact rfl))
  | (with_reducible refine g_c ?_)
  | (with_reducible refine g_op ?_)
  | (with_reducible refine g_un ?_)
  | (with_reducible refine g_I0 ?_)
  | ((with_reducible refine g_I ?gc ?_); (case gc => first | assumption | decide | (show (0 : Int) < _; omega) | exact Or.inr ⟨by omega, by omega⟩ | exact Or.inl ⟨by omega, by omega⟩ | exact ⟨by omega, by omega⟩))
  | (with_reducible refine iteT ?_)
  | (with_reducible refine iteF ?_)
  | (with_reducible refine iteNT ?_)
  | (with_reducible refine iteNF ?_)
  | (with_reducible refine g_andV ?_)
  | (with_reducible refine g_orV ?_)
  | ((with_reducible refine' g_lenS (by assumption) ?_))
  | ((with_reducible refine' g_lenS (SqL.of (by walk_at "lk")) ?_))
  | (with_reducible refine g_U ?_)
  | ((with_reducible refine g_eq ?gs ?_); (case gs => rfl))
  | ((with_reducible refine g_ne ?gs ?_); (case gs => rfl))
  | (with_reducible refine g_drop ?_)
  | (with_reducible refine g_ret ?_)
  | (with_reducible refine g_next ?_)
  | (with_reducible refine g_ifS ?_)
  | (with_reducible refine g_ifE ?_)
  | (with_reducible refine g_test ?_)
  | (with_reducible refine g_tb ?_)
  | (with_reducible refine g_bl ?_)
  | (with_reducible refine g_not ?_)
  | (with_reducible refine g_and ?_)
  | (with_reducible refine g_or ?_)
  | (with_reducible refine g_nil ?_)
  | (with_reducible refine g_cons ?_)
  | (with_reducible refine g_cb ?_)
  | (with_reducible refine g_call ?_)
  | (with_reducible refine g_int ?_)
  | (with_reducible refine g_two ?_)
  | ((with_reducible refine g_lenStr ?gz ?_); (case gz => first | assumption | exact sz_le (by omega)))
  | (with_reducible refine g_m1 ?_)
  | (with_reducible refine g_isS ?_)
  | (with_reducible refine g_nn ?_)
  | (with_reducible refine g_yes ?_)
  | (with_reducible refine g_for ?_)
  | (with_reducible refine g_ckw ?_)
  | (with_reducible refine g_iZip ?_)
  | (with_reducible refine g_lc ?_)
  | (with_reducible refine g_lc2 ?_)
  | (with_reducible refine g_iList ?_)
  | (with_reducible refine g_iRng1 ?_)
  | (with_reducible refine g_iRng2 ?_)
  | (with_reducible refine g_sl ?_)
  | (with_reducible refine g_noPart ?_)
  | (with_reducible refine g_part ?_)
  | (with_reducible refine g_ex1 ?_)
  | (with_reducible refine g_bm ?_)
  | ((with_reducible refine' g_tyL (by walk_at "lk") ?_))
  | (with_reducible refine g_lst ?_)
  | (with_reducible refine g_tup ?_)
  | ((with_reducible refine' g_ixL (by assumption) ?ga ?_); (case ga => assumption))
  | ((with_reducible refine' g_ixL (SqL.of (by walk_at "lk")) ?ga ?_); (case ga => first | exact rfl | assumption))
  | ((with_reducible refine' g_setL2 ?ga ?gb ?_); (case ga => exact rfl); (case gb => exact rfl))
  | ((with_reducible refine' g_setL (by walk_at "lk") ?ga ?gb ?_); (case ga => exact rfl); (case gb => exact rfl)))
local macro_rules | `(tactic| walk_at "go") => `(tactic| ((repeat walk_at "go1"); try dsimp only [List.set, List.cons_append, List.nil_append]))
/-- a table: a list of rows, each a list of worths -/
def Tab (K : PySem.W.Frag) (H : Hp) (t : Addr) (rs : List (Addr × List (Option Int))) : Prop := SqL K H t (rs.map fun r => V.ref r.1) ∧ ∀ r ∈ rs, SqL K H r.1 (r.2.map wV)
def TabOk (rs : List (Addr × List (Option Int))) : Prop := rs.length ≤ 30 ∧ ∀ r ∈ rs, r.2.length ≤ 40 ∧ ∀ o ∈ r.2, okW o
def spTable : Sp := fun vs H Q _ => ∃ (b c : Addr) (n : Nat), vs = [.ref b, .int n] ∧ Bag c b H ∧ n ≤ 30 ∧ ∀ t (rs : List (Addr × List (Option Int))) H', H t = none → Kp b H H' → Bag c b H' → H' t = some (.lst (rs.map fun r => V.ref r.1)) →
  (∀ r ∈ rs, H' r.1 = some (.lst (r.2.map wV)) ∧ H r.1 = none) → TabOk rs → rs.length = n → Q (.ref t) H'
def spWritten : Sp := fun vs H Q _ => ∃ (o : Option Int), vs = [wV o] ∧ okW o ∧ Q (.str (wS o)) H
section
variable {P : Program} {w : World} {K : PySem.W.Frag} {mg : Str → Option Value} {base : Heap}
theorem ok__law_table (T : Txt K mg) (c__law_take : C8.Cal P w K mg base 1 "_law_take" spTake []) (c__law_worth : C8.Cal P w K mg base 2 "_law_worth" spWorth []) {f : Addr} {fd : FuncData} (F : Fun K "_law_table" "_law_table" s__law_table f fd) : FnOk P w K mg base CX0 3 f fd ["bag", "many"] spTable := by
  refine F.ok sc__law_table (fun vs H Q E h => ?_) (fun cdv A outer s H vs Q E hr h => ?_)
  · obtain ⟨b, c, n, rfl, _⟩ := h
    rfl
  obtain ⟨b, c, n, rfl, hB, hn, q⟩ := h
  refine ⟨_, (pss_cons (ps_set (i := 2) sc__law_table.nd rfl (.inl rfl) pe_int)
      (Evl.pss_cut (ps_if (pt_cmpR op_eq (C8.pe_c c__law_take hr (by decide) (by rfl) (pa_cons (pv 0) (pa_cons pe_int pa_nil))) pe_int (nomark _)) (pss_one (ps_set (i := 2) sc__law_table.nd rfl (.inl rfl) pe_int)) pss_nil)
      (pss_cons (ps_set (i := 3) sc__law_table.nd rfl (.inl rfl) (C8.pe_c c__law_take hr (by decide) (by rfl) (pa_cons (pv 0) (pa_cons (pe_op op_add (pv 2) pe_int) pa_nil))))
      (pss_cons (ps_set (i := 4) sc__law_table.nd rfl (.inl rfl) (C8.pe_c c__law_take hr (by decide) (by rfl) (pa_cons (pv 0) (pa_cons pe_int pa_nil))))
      (pss_cons (ps_set (i := 5) sc__law_table.nd rfl (.inl rfl) (pe_lst pa_nil))
      (pss_cons (ps_for PassesOwn.never rfl (pi_range1 (by rfl) T.b_range (pa_cons (pv 1) pa_nil)) (pg_name (i := 6) sc__law_table.nd rfl (.inl rfl)) (Evl.pss_cut (ps_set (i := 7) sc__law_table.nd rfl (.inl rfl) (pe_ifExp (pt_cmpR op_eq (pv 4) pe_int (nomark _)) (pv 3) (C8.pe_c c__law_take hr (by decide) (by rfl) (pa_cons (pv 0) (pa_cons (pe_op op_add (pv 2) pe_int) pa_nil)))))
      (pss_one (ps_expr (kpe_bm K PySem.F.plainAttrs_list PySem.F.slot_list_append PySem.F.type_list_append mt_append (pv 5) (pa_cons (pe_lc (own := [("turn", 8)]) rfl sc__law_table.nd (pi_range1 (by rfl) T.b_range (pa_cons (pv 7) pa_nil)) (blkOk_by (own := [("turn", 8)]) (N := ["bag", "many", "most", "length", "alike", "table", "k", "size", "turn"]) (sc := defScope s__law_table) (by decide +kernel)) (fun _ _ _ _ _ => (pg_name (i := 8) sc__law_table.nd rfl (.inl rfl))) (fun _ _ _ _ _ => pts_nil) (fun _ _ _ _ _ => (C8.pe_c c__law_worth hr (by decide) (by rfl) (pa_cons (pv 0) pa_nil)))) pa_nil))))))
      (pss_one (ps_ret (pv 5))))))))), ?_⟩
  rw [show (L2.start ["bag", "many", "most", "length", "alike", "table", "k", "size", "turn"] [.ref b, .int n] : L2.St) = [some (.ref b), some (.int n), none, none, none, none, none, none, none] from rfl]
  try simp only [WL.cxK]
  walk_at "go"
  refine ⟨fun σ' H' => ∃ m : Int, σ' = [some (.ref b), some (.int n), some (.int m), none, none, none, none, none, none] ∧ 0 ≤ m ∧ m ≤ 40 ∧ Kp b H H' ∧ Bag c b H', ?_, fun σ' H' hm => ?_⟩
  · walk_at "go"
    refine g_take hB (by decide) (by decide) fun d2 H2 _ _ k2 B2 => ?_
    walk_at "go"
    refine g_iteI (fun e => ?_) (fun e => ?_)
    · walk_at "go"
      exact ⟨_, rfl, by omega, by omega, k2, B2⟩
    · walk_at "go"
      exact ⟨_, rfl, by omega, by omega, k2, B2⟩
  obtain ⟨m, rfl, m0, m1, k1, B1⟩ := hm
  walk_at "go"
  refine g_take B1 (by omega) (by omega) fun len H2 l0 l1 k2 B2 => ?_
  walk_at "go"
  refine g_take B2 (by omega) (by omega) fun al H3 a0 a1 k3 B3 => ?_
  walk_at "go"
  refine ⟨by decide, fun p np => ?_⟩
  have k13 : Kp b H H3 := (k1.trans k2).trans k3
  have nbp : p ≠ b := fun e => by
    obtain ⟨cells, x1, x2, x3, x4, x5, hb, _⟩ := B3; rw [e, hb] at np; cases np
  have npc : p ≠ c := fun e => by
    obtain ⟨cells, x1, x2, x3, x4, x5, _, hc, _⟩ := B3; rw [e, hc] at np; cases np
  have npH : H p = none := k13.free nbp np
  walk_at "go"
  refine f_rng1 (by omega) (by omega) (fun i σ' H' => ∃ (rs : List (Addr × List (Option Int))) (y z : Option V), σ' = [some (.ref b), some (.int n), some (.int m), some (.int len), some (.int al), some (.ref p), y, z, none] ∧ rs.length = i ∧ (∀ r ∈ rs, (H' r.1 = some (.lst (r.2.map wV)) ∧ H r.1 = none) ∧ r.2.length ≤ 40 ∧ ∀ o ∈ r.2, okW o) ∧ Kp b H H' ∧ Bag c b H' ∧ H' p = some (.lst (rs.map fun r => V.ref r.1)))
    ⟨[], none, none, rfl, rfl, (fun _ h => by cases h), k13.new np, B3.new np, upd_same⟩ (fun i σ' H' hi hP => ?_) (fun σ' H' hP => ?_)
  · obtain ⟨rs, y, z, rfl, hl, hr1, k4, B4, hp⟩ := hP
    have hil : i < n := by omega
    walk_at "go"
    refine ⟨fun σ2 H2 => ∃ sz : Int, σ2 = [some (.ref b), some (.int n), some (.int m), some (.int len), some (.int al), some (.ref p), some (.int i), some (.int sz), none] ∧ 0 ≤ sz ∧ sz ≤ 40 ∧ Kp b H' H2 ∧ Bag c b H2, ?_, fun σ2 H2 hm => ?_⟩
    · walk_at "go"
      refine g_iteI (fun e => ?_) (fun e => ?_)
      · walk_at "go"
        exact ⟨len, rfl, l0, by omega, Kp.refl _, B4⟩
      · walk_at "go"
        refine g_take B4 (by omega) (by omega) fun sz H5 s0 s1 k5 B5 => ?_
        walk_at "go"
        exact ⟨sz, rfl, s0, by omega, k5, B5⟩
    obtain ⟨sz, rfl, s0, s1, k5, B5⟩ := hm
    have hp5 := k5 _ _ hp nbp
    walk_at "go"
    refine f_lcR (by omega) (by omega) (fun D i H5 => ∃ os : List (Option Int), os.length = i ∧ H5 D = some (.lst (os.map wV)) ∧ (∀ o ∈ os, okW o) ∧ Kp b H2 H5 ∧ Bag c b H5)
      (fun D nD => ⟨[], rfl, upd_same, (fun _ h => by cases h), (Kp.refl H2).new nD, B5.new nD⟩) (fun D j H5 nD hj hP => ?_) (fun D H5 nD hP => ?_)
    · obtain ⟨os, ho, hD, hok, k6, B6⟩ := hP
      have nDb : D ≠ b := fun e => by
        obtain ⟨cells, x1, x2, x3, x4, x5, hb, _⟩ := B5; rw [e, hb] at nD; cases nD
      have nDc : D ≠ c := fun e => by
        obtain ⟨cells, x1, x2, x3, x4, x5, _, hc, _⟩ := B5; rw [e, hc] at nD; cases nD
      refine g_name ⟨rfl, ?_⟩
      walk_at "go"
      refine ⟨b, c, rfl, B6, fun o H7 ok7 k7 B7 => ?_⟩
      refine ⟨_, k7 _ _ hD nDb, sz_lt (by rw [List.length_map]; omega), os ++ [o], by simp [ho], by rw [upd_same, List.map_append]; rfl, fun u hu => ?_, (k6.trans k7).mut nD, B7.upd nDb nDc⟩
      rcases List.mem_append.mp hu with hu | hu
      · exact hok u hu
      · rw [List.mem_singleton.mp hu]; exact ok7
    · obtain ⟨os, ho, hD, hok, k6, B6⟩ := hP
      walk_at "go"
      have hp6 := k6 _ _ hp5 nbp
      have nDp : D ≠ p := (ne_of_none hp5 nD).symm
      refine g_app hp6 (sz_lt (by rw [List.length_map]; omega)) ?_
      have nDb : D ≠ b := fun e => by
        obtain ⟨cells, x1, x2, x3, x4, x5, hb, _⟩ := B5; rw [e, hb] at nD; cases nD
      refine ⟨rs ++ [(D, os)], _, _, rfl, by simp [hl], fun r hr => ?_, ((k4.trans k5).trans k6).mut npH, B6.upd nbp npc, by rw [upd_same, List.map_append]; rfl⟩
      rcases List.mem_append.mp hr with hr | hr
      · obtain ⟨⟨g1, g2⟩, g3⟩ := hr1 r hr
        have nrb : r.1 ≠ b := fun e => by
          obtain ⟨cells, x1, x2, x3, x4, x5, hb, _⟩ := hB; rw [e, hb] at g2; cases g2
        have nrp : r.1 ≠ p := fun e => by
          rw [e, hp] at g1
          have e1 := HO.lst.inj (Option.some.inj g1)
          have e3 : (rs.map fun r => V.ref r.1) ≠ [] := by intro h0; rw [List.map_eq_nil_iff] at h0; rw [h0] at hr; cases hr
          cases hrs : rs with
          | nil => rw [hrs] at hr; cases hr
          | cons r0 rr =>
            rw [hrs] at e1
            cases h2 : r.2 with
            | nil => rw [h2] at e1; cases e1
            | cons o0 oo =>
              rw [h2] at e1
              have e4 := (List.cons.inj e1).1
              cases o0 <;> cases e4
        exact ⟨⟨by rw [upd_ne nrp]; exact k6 _ _ (k5 _ _ g1 nrb) nrb, g2⟩, g3⟩
      · rw [List.mem_singleton.mp hr]
        exact ⟨⟨by rw [upd_ne nDp]; exact hD, (k4.trans k5).free nDb nD⟩, by show os.length ≤ 40; omega, hok⟩
  · obtain ⟨rs, y, z, rfl, hl, hr1, k4, B4, hp⟩ := hP
    walk_at "go"
    exact q p rs H' npH k4 B4 hp (fun r hr => (hr1 r hr).1) ⟨by omega, fun r hr => (hr1 r hr).2⟩ (by omega)
theorem ok__law_written (T : Txt K mg)  {f : Addr} {fd : FuncData} (F : Fun K "_law_written" "_law_written" s__law_written f fd) : FnOk P w K mg base CX0 1 f fd ["worth"] spWritten := by
  refine F.ok sc__law_written (fun vs H Q E h => ?_) (fun cdv A outer s H vs Q E hr h => ?_)
  · obtain ⟨o, rfl, _⟩ := h
    rfl
  obtain ⟨o, rfl, ho, q⟩ := h
  refine ⟨_, (pss_cons (ps_if (pt_cmpR op_isN (pv 0) pe_non (nomark _)) (pss_one (ps_ret pe_str)) pss_nil)
      (pss_one (ps_ret (pe_callTy call_str_int (by rfl) T.b_str (by decide +kernel) (pa_cons (pv 0) pa_nil))))), ?_⟩
  rw [show (L2.start ["worth"] [wV o] : L2.St) = [some (wV o)] from rfl]
  try simp only [WL.cxK]
  cases o with
  | none =>
    simp only [wV]
    walk_at "go"
    refine g_ite (fun _ => ?_) (fun e => absurd rfl e)
    walk_at "go"
    exact q
  | some z =>
    simp only [wV]
    walk_at "go"
    refine g_ite (fun e => by cases e) (fun _ => ?_)
    walk_at "go"
    obtain ⟨h0, h1⟩ := ho
    refine ⟨z, rfl, ?_, q⟩
    have : z.natAbs.log2 < 1920 := Nat.lt_of_lt_of_le (PySem.Flt.log2_lt_of (k := 17) (by decide) (by omega)) (by decide)
    exact this
end
end K41
set_option Elab.async false
set_option linter.all false
set_option maxRecDepth 100000
set_option maxHeartbeats 4000000
namespace K41
open PySem PySem.Spec PyProof.Rows L2 WL
local macro_rules | `(tactic| walk_at "lk") => `(tactic| first
  | exact upd_same
  | assumption
  | (rw [upd_ne (by assumption)]; first | exact upd_same | assumption | (rw [upd_ne (by assumption)]; first | exact upd_same | assumption | (rw [upd_ne (by assumption)]; first | exact upd_same | assumption))))
local macro_rules | `(tactic| walk_at "go1") => `(tactic| first
  | (with_reducible refine g_seq ?_)
  | (with_reducible refine g_asg ?_)
  | (with_reducible refine g_name ?_)
  | (with_reducible refine g_sub ?_)
  | ((with_reducible refine' g_var ?gv ?_); (case gv => exact rfl))
  | (with_reducible refine g_c ?_)
  | (with_reducible refine g_op ?_)
  | (with_reducible refine g_un ?_)
  | (with_reducible refine g_I0 ?_)
  | ((with_reducible refine g_I ?gc ?_); (case gc => first | assumption | decide | (show (0 : Int) < _; omega) | exact Or.inr ⟨by omega, by omega⟩ | exact Or.inl ⟨by omega, by omega⟩ | exact ⟨by omega, by omega⟩))
  | (with_reducible refine iteT ?_)
  | (with_reducible refine iteF ?_)
  | (with_reducible refine iteNT ?_)
  | (with_reducible refine iteNF ?_)
  | (with_reducible refine g_andV ?_)
  | (with_reducible refine g_orV ?_)
  | ((with_reducible refine' g_lenS (by assumption) ?_))
  | ((with_reducible refine' g_lenS (SqL.of (by walk_at "lk")) ?_))
  | (with_reducible refine g_U ?_)
  | ((with_reducible refine g_eq ?gs ?_); (case gs => rfl))
  | ((with_reducible refine g_ne ?gs ?_); (case gs => rfl))
  | (with_reducible refine g_drop ?_)
  | (with_reducible refine g_ret ?_)
  | (with_reducible refine g_next ?_)
  | (with_reducible refine g_ifS ?_)
  | (with_reducible refine g_ifE ?_)
  | (with_reducible refine g_test ?_)
  | (with_reducible refine g_tb ?_)
  | (with_reducible refine g_bl ?_)
  | (with_reducible refine g_not ?_)
  | (with_reducible refine g_and ?_)
  | (with_reducible refine g_or ?_)
  | (with_reducible refine g_nil ?_)
  | (with_reducible refine g_cons ?_)
  | (with_reducible refine g_cb ?_)
  | (with_reducible refine g_call ?_)
  | (with_reducible refine g_int ?_)
  | (with_reducible refine g_two ?_)
  | ((with_reducible refine g_lenStr ?gz ?_); (case gz => first | assumption | exact sz_le (by omega)))
  | (with_reducible refine g_m1 ?_)
  | (with_reducible refine g_isS ?_)
  | (with_reducible refine g_nn ?_)
  | (with_reducible refine g_yes ?_)
  | (with_reducible refine g_for ?_)
  | (with_reducible refine g_ckw ?_)
  | (with_reducible refine g_iZip ?_)
  | (with_reducible refine g_lc ?_)
  | (with_reducible refine g_lc2 ?_)
  | (with_reducible refine g_iList ?_)
  | (with_reducible refine g_iRng1 ?_)
  | (with_reducible refine g_iRng2 ?_)
  | (with_reducible refine g_sl ?_)
  | (with_reducible refine g_noPart ?_)
  | (with_reducible refine g_part ?_)
  | (with_reducible refine g_ex1 ?_)
  | (with_reducible refine g_bm ?_)
  | ((with_reducible refine' g_tyL (by walk_at "lk") ?_))
  | (with_reducible refine g_lst ?_)
  | (with_reducible refine g_tup ?_)
  | ((with_reducible refine' g_ixL (by assumption) ?ga ?_); (case ga => assumption))
  | ((with_reducible refine' g_ixL (SqL.of (by walk_at "lk")) ?ga ?_); (case ga => first | exact rfl | assumption))
  | ((with_reducible refine' g_setL2 ?ga ?gb ?_); (case ga => exact rfl); (case gb => exact rfl))
  | ((with_reducible refine' g_setL (by walk_at "lk") ?ga ?gb ?_); (case ga => exact rfl); (case gb => exact rfl)))
local macro_rules | `(tactic| walk_at "go") => `(tactic| ((repeat walk_at "go1"); try dsimp only [List.set, List.cons_append, List.nil_append]))
abbrev S (l : List Nat) : Str := ⟨l.toArray⟩
theorem S_len (l : List Nat) : (S l).length = l.length := by simp [S, Str.length]
theorem S_cat (a b : List Nat) : S a ++ S b = S (a ++ b) := TL.ext_tl (TL.tl_append (S a) (S b))
theorem S_tl (x : Str) : S x.cps.toList = x := TL.mk_tl x
theorem maxI {i j : Nat} : (if (j : Int) > (i : Int) then (j : Int) else (i : Int)) = ((max i j : Nat) : Int) := by
  split <;> omega
theorem take_snoc {α : Type} {l : List α} {i : Nat} {x : α} (h : l[i]? = some x) : l.take (i + 1) = l.take i ++ [x] := by
  rw [List.take_succ, h]; rfl
/-- the signs of the names, of the words -/
def nL (nms : List Str) : List (List Nat) := nms.map fun z => z.cps.toList
def rL (rs : List (Addr × List (Option Int))) : List (List (List Nat)) := rs.map fun r => r.2.map wl
def spDue (K : PySem.W.Frag) : Sp := fun vs H Q _ => ∃ (a t : Addr) (nms : List Str) (rs : List (Addr × List (Option Int))), vs = [.ref a, .ref t] ∧ SqL K H a (nms.map V.str) ∧ Tab K H t rs ∧ TabOk rs ∧ nms.length = rs.length ∧ (∀ z ∈ nms, z.length ≤ 60) ∧
  ∀ H', Same H H' → Q (.str (S (textL (nL nms) (rL rs)))) H'
theorem row_of {K : PySem.W.Frag} {H : Hp} {t : Addr} {rs : List (Addr × List (Option Int))} (h : Tab K H t rs) {i : Nat} {r : Addr × List (Option Int)} (e : rs[i]? = some r) : SqL K H r.1 (r.2.map wV) := h.2 r (List.mem_of_getElem? e)
theorem Tab.same {K : PySem.W.Frag} {H H' : Hp} {t : Addr} {rs : List (Addr × List (Option Int))} (h : Tab K H t rs) (s : Same H H') : Tab K H' t rs := ⟨s.seq h.1, fun r hr => s.seq (h.2 r hr)⟩
theorem wS_len {o : Option Int} (h : okW o) : (wS o).length ≤ 5 := by rw [TL.len_tl]; exact wl_len h
/-- the line of a name and its row -/
def lnS (L W : Nat) (p : Str × (Addr × List (Option Int))) : Str := S (lineL L W p.1.cps.toList (p.2.2.map wl))
theorem sp_len (n : Nat) : (sp n).length = n := List.length_replicate
theorem one_sp : Str.ofString " " = S [32] := by decide +kernel
theorem mul_sp (n : Int) : Txt.mul (Str.ofString " ") n = S (sp n.toNat) := by rw [one_sp]; exact mul_one_sign 32 n
theorem S_join (a : List Nat) (ys : List (List Nat)) : Txt.join (S a) (ys.map S) = S (TL.joinL a ys) := SX.join_S a ys
theorem text_of (nms : List Str) (rs : List (Addr × List (Option Int))) : Txt.join (Str.ofString "\n") ((nms.zip rs).map (lnS (mx (nL nms)) (mx (rL rs).flatten))) = S (textL (nL nms) (rL rs)) := by
  have e : (nms.zip rs).map (lnS (mx (nL nms)) (mx (rL rs).flatten)) = (((nL nms).zip (rL rs)).map fun p => lineL (mx (nL nms)) (mx (rL rs).flatten) p.1 p.2).map S := by
    generalize mx (nL nms) = L
    generalize mx (rL rs).flatten = W
    unfold nL rL
    rw [List.zip_map, List.map_map, List.map_map]
    rfl
  rw [e, show Str.ofString "\n" = S [10] by decide +kernel, S_join]
  rfl
theorem sum_le {B : Nat} : ∀ l : List Nat, (∀ x ∈ l, x ≤ B) → l.sum ≤ l.length * B
  | [], _ => Nat.zero_le _
  | x :: r, h => by
    have h1 := h x List.mem_cons_self
    have h2 := sum_le r fun y hy => h y (List.mem_cons_of_mem _ hy)
    rw [List.sum_cons, List.length_cons, Nat.succ_mul]; omega
theorem mx_names {nms : List Str} (h : ∀ z ∈ nms, z.length ≤ 60) : mx (nL nms) ≤ 60 := mx_le fun u hu => by
  obtain ⟨z, hz, rfl⟩ := List.mem_map.mp hu
  have := h z hz
  rw [TL.len_tl] at this; exact this
theorem mx_rows {rs : List (Addr × List (Option Int))} (h : TabOk rs) : mx (rL rs).flatten ≤ 5 := mx_le fun u hu => by
  obtain ⟨row, hrow, hu⟩ := List.mem_flatten.mp hu
  obtain ⟨r, hr, rfl⟩ := List.mem_map.mp hrow
  obtain ⟨o, ho, rfl⟩ := List.mem_map.mp hu
  exact wl_len ((h.2 r hr).2 o ho)
theorem lnS_len {nms : List Str} {rs : List (Addr × List (Option Int))} (hok : TabOk rs) (hn : ∀ z ∈ nms, z.length ≤ 60) {p : Str × (Addr × List (Option Int))} (hp : p ∈ nms.zip rs) : (lnS (mx (nL nms)) (mx (rL rs).flatten) p).length ≤ 60 + 40 * 6 := by
  obtain ⟨z, r⟩ := p
  obtain ⟨h1, h2⟩ := List.of_mem_zip hp
  have hL := mx_names hn
  have hW := mx_rows hok
  unfold lnS
  rw [S_len]
  refine Nat.le_trans (line_len (n := 40) (mx_ge (List.mem_map.mpr ⟨z, h1, rfl⟩)) (fun u hu => ?_) (by rw [List.length_map]; exact (hok.2 r h2).1)) (by
    have := Nat.mul_le_mul_left 40 (show mx (rL rs).flatten + 1 ≤ 6 by omega)
    omega)
  exact mx_ge (List.mem_flatten.mpr ⟨r.2.map wl, List.mem_map.mpr ⟨r, h2, rfl⟩, hu⟩)
theorem join_size {nms : List Str} {rs : List (Addr × List (Option Int))} (hok : TabOk rs) (hl : nms.length = rs.length) (hn : ∀ z ∈ nms, z.length ≤ 60) :
    (((nms.zip rs).map (lnS (mx (nL nms)) (mx (rL rs).flatten))).map (·.length)).sum + ((nms.zip rs).map (lnS (mx (nL nms)) (mx (rL rs).flatten))).length * (Str.ofString "\n").length ≤ 16777216 := by
  have h1 := sum_le (B := 300) (((nms.zip rs).map (lnS (mx (nL nms)) (mx (rL rs).flatten))).map (·.length)) fun x hx => by
    obtain ⟨s, hs, rfl⟩ := List.mem_map.mp hx
    obtain ⟨p, hp, rfl⟩ := List.mem_map.mp hs
    exact lnS_len hok hn hp
  have h2 := hok.1
  rw [List.length_map, List.length_map, List.length_zip] at h1
  rw [List.length_map, List.length_zip, show (Str.ofString "\n").length = 1 by decide +kernel]
  have h3 : min nms.length rs.length ≤ 30 := by omega
  have h4 := Nat.mul_le_mul_right 300 h3
  omega
section
variable {P : Program} {w : World} {K : PySem.W.Frag} {mg : Str → Option Value} {base : Heap}
theorem ok__law_due (T : Txt K mg) (c__law_written : C8.Cal P w K mg base 1 "_law_written" spWritten []) {f : Addr} {fd : FuncData} (F : Fun K "_law_due" "_law_due" s__law_due f fd) : FnOk P w K mg base CX0 2 f fd ["names", "table"] (spDue K) := by
  refine F.ok sc__law_due (fun vs H Q E h => ?_) (fun cdv A outer s H vs Q E hr h => ?_)
  · obtain ⟨a, t, nms, rs, rfl, _⟩ := h
    rfl
  obtain ⟨a, t, nms, rs, rfl, hA, hT, hok, hl, hnl, q⟩ := h
  refine ⟨_, (pss_cons (ps_set (i := 2) sc__law_due.nd rfl (.inl rfl) pe_int)
      (pss_cons (ps_for PassesOwn.never rfl (kpi_list K (pv 0)) (pg_name (i := 3) sc__law_due.nd rfl (.inl rfl)) (pss_one (ps_set (i := 2) sc__law_due.nd rfl (.inl rfl) (pe_callB (call_max2 rfl) (by rfl) T.b_max (by decide +kernel) (pa_cons (pv 2) (pa_cons (pe_callB call_len_str (by rfl) T.b_len (by decide +kernel) (pa_cons (pv 3) pa_nil)) pa_nil))))))
      (pss_cons (ps_set (i := 4) sc__law_due.nd rfl (.inl rfl) pe_int)
      (pss_cons (ps_for PassesOwn.never rfl (kpi_list K (pv 1)) (pg_name (i := 5) sc__law_due.nd rfl (.inl rfl)) (pss_one (ps_for PassesOwn.never rfl (kpi_list K (pv 5)) (pg_name (i := 6) sc__law_due.nd rfl (.inl rfl)) (pss_one (ps_set (i := 4) sc__law_due.nd rfl (.inl rfl) (pe_callB (call_max2 rfl) (by rfl) T.b_max (by decide +kernel) (pa_cons (pv 4) (pa_cons (pe_callB call_len_str (by rfl) T.b_len (by decide +kernel) (pa_cons (C8.pe_c c__law_written hr (by decide) (by rfl) (pa_cons (pv 6) pa_nil)) pa_nil)) pa_nil))))))))
      (pss_cons (ps_set (i := 7) sc__law_due.nd rfl (.inl rfl) (pe_lst pa_nil))
      (pss_cons (ps_for PassesOwn.never rfl (pi_range1 (by rfl) T.b_range (pa_cons (pe_callB (kcall_len_seq K) (by rfl) T.b_len (by decide +kernel) (pa_cons (pv 0) pa_nil)) pa_nil)) (pg_name (i := 8) sc__law_due.nd rfl (.inl rfl)) (pss_cons (ps_set (i := 9) sc__law_due.nd rfl (.inl rfl) (pe_op op_add_str (pe_ix (kix_list K) (pv 0) (pv 8) (fun _ _ => rfl)) (pe_op op_mul_str pe_str (pe_op op_sub (pv 2) (pe_callB call_len_str (by rfl) T.b_len (by decide +kernel) (pa_cons (pe_ix (kix_list K) (pv 0) (pv 8) (fun _ _ => rfl)) pa_nil))))))
      (pss_cons (ps_for PassesOwn.never rfl (kpi_list K (pe_ix (kix_list K) (pv 1) (pv 8) (fun _ _ => rfl))) (pg_name (i := 6) sc__law_due.nd rfl (.inl rfl)) (pss_cons (ps_set (i := 10) sc__law_due.nd rfl (.inl rfl) (C8.pe_c c__law_written hr (by decide) (by rfl) (pa_cons (pv 6) pa_nil)))
      (pss_one (ps_set (i := 9) sc__law_due.nd rfl (.inl rfl) (pe_op op_add_str (pe_op op_add_str (pe_op op_add_str (pv 9) pe_str) (pe_op op_mul_str pe_str (pe_op op_sub (pv 4) (pe_callB call_len_str (by rfl) T.b_len (by decide +kernel) (pa_cons (pv 10) pa_nil))))) (pv 10))))))
      (pss_one (ps_expr (kpe_bm K PySem.F.plainAttrs_list PySem.F.slot_list_append PySem.F.type_list_append mt_append (pv 7) (pa_cons (pv 9) pa_nil)))))))
      (pss_one (ps_ret (kpe_join K pe_str (pv 7)))))))))), ?_⟩
  rw [show (L2.start ["names", "table", "longest", "name", "widest", "row", "worth", "lines", "k", "line", "word"] [.ref a, .ref t] : L2.St) = [some (.ref a), some (.ref t), none, none, none, none, none, none, none, none, none] from rfl]
  try simp only [WL.cxK]
  have hr30 := hok.1
  walk_at "go"
  refine f_list hA (fun i σ' H' => ∃ y, σ' = [some (.ref a), some (.ref t), some (.int (mx ((nL nms).take i) : Nat)), y, none, none, none, none, none, none, none] ∧ H' = H) ⟨none, rfl, rfl⟩ (fun i σ' H' _ ⟨_, _, e⟩ => by rw [e]; exact hA) (fun i x σ' H' hx hP => ?_) (fun σ' H' hP => ?_)
  · obtain ⟨y, rfl, rfl⟩ := hP
    obtain ⟨z, hz, rfl⟩ := map_atS hx
    have hzl := hnl z (List.mem_of_getElem? hz)
    walk_at "go"
    refine ⟨some (.str z), ?_, rfl⟩
    rw [show (V.int (if ((z.length : Nat) : Int) > ((mx ((nL nms).take i) : Nat) : Int) then ((z.length : Nat) : Int) else ((mx ((nL nms).take i) : Nat) : Int))) = V.int (mx ((nL nms).take (i + 1)) : Nat) by
      rw [maxI, take_snoc (x := z.cps.toList) (by unfold nL; rw [List.getElem?_map, hz]; rfl), mx_snoc, TL.len_tl]]
  obtain ⟨y, rfl, rfl⟩ := hP
  rw [List.length_map, show nms.length = (nL nms).length by unfold nL; rw [List.length_map], List.take_length]
  have hL : mx (nL nms) ≤ 60 := mx_le fun u hu => by
    obtain ⟨z, hz, rfl⟩ := List.mem_map.mp hu
    have := hnl z hz
    rw [TL.len_tl] at this; exact this
  walk_at "go"
  -- widest
  refine f_list hT.1 (fun i σ' H'' => ∃ y1 y2 y3, σ' = [some (.ref a), some (.ref t), some (.int (mx (nL nms) : Nat)), y1, some (.int (mx ((rL rs).take i).flatten : Nat)), y2, y3, none, none, none, none] ∧ H'' = H') ⟨_, none, none, rfl, rfl⟩ (fun i σ' H'' _ ⟨_, _, _, _, e⟩ => by rw [e]; exact hT.1) (fun i x σ' H'' hx hP => ?_) (fun σ' H'' hP => ?_)
  · obtain ⟨y1, y2, y3, rfl, rfl⟩ := hP
    obtain ⟨r, hr, rfl⟩ := map_atG hx
    have hrow := row_of hT hr
    obtain ⟨r40, rok⟩ := hok.2 r (List.mem_of_getElem? hr)
    walk_at "go"
    refine f_list hrow (fun j σ2 H2 => ∃ y3, σ2 = [some (.ref a), some (.ref t), some (.int (mx (nL nms) : Nat)), y1, some (.int (mx (((rL rs).take i).flatten ++ (r.2.take j).map wl) : Nat)), some (.ref r.1), y3, none, none, none, none] ∧ H2 = H'') ⟨y3, by simp, rfl⟩ (fun i σ' H3 _ ⟨_, _, e⟩ => by rw [e]; exact hrow) (fun j x σ2 H2 hx2 hP => ?_) (fun σ2 H2 hP => ?_)
    · obtain ⟨y3, rfl, rfl⟩ := hP
      obtain ⟨o, ho, rfl⟩ := map_atG hx2
      have hoo := rok o (List.mem_of_getElem? ho)
      have h5 := wS_len hoo
      walk_at "go"
      refine ⟨o, rfl, hoo, ?_⟩
      walk_at "go"
      refine ⟨some (wV o), ?_, rfl⟩
      rw [show (V.int (if (((wS o).length : Nat) : Int) > ((mx (((rL rs).take i).flatten ++ (r.2.take j).map wl) : Nat) : Int) then (((wS o).length : Nat) : Int) else ((mx (((rL rs).take i).flatten ++ (r.2.take j).map wl) : Nat) : Int))) = V.int (mx (((rL rs).take i).flatten ++ (r.2.take (j + 1)).map wl) : Nat) by
        rw [maxI, take_snoc ho, List.map_append, ← List.append_assoc, List.map_singleton, mx_snoc, TL.len_tl]; rfl]
    · obtain ⟨y3, rfl, rfl⟩ := hP
      refine ⟨y1, some (.ref r.1), y3, ?_, rfl⟩
      rw [List.length_map, List.take_length, take_snoc (l := rL rs) (x := r.2.map wl) (by unfold rL; rw [List.getElem?_map, hr] <;> rfl), List.flatten_append]
      simp
  obtain ⟨y1, y2, y3, rfl, rfl⟩ := hP
  rw [List.length_map, show rs.length = (rL rs).length by unfold rL; rw [List.length_map], List.take_length]
  have hW : mx (rL rs).flatten ≤ 5 := mx_le fun u hu => by
    obtain ⟨row, hrow, hu⟩ := List.mem_flatten.mp hu
    obtain ⟨r, hr, rfl⟩ := List.mem_map.mp hrow
    obtain ⟨o, ho, rfl⟩ := List.mem_map.mp hu
    exact wl_len ((hok.2 r hr).2 o ho)
  walk_at "go"
  refine ⟨by decide, fun p np => ?_⟩
  have s1 : Same H'' (upd H'' p (.lst [])) := same_new np
  have hA1 := s1.seq hA
  walk_at "go"
  rw [List.length_map]
  refine f_rng1 (by omega) (by omega) (fun i σ' H3 => ∃ y2 y3 y8 y9 y10, σ' = [some (.ref a), some (.ref t), some (.int (mx (nL nms) : Nat)), y1, some (.int (mx (rL rs).flatten : Nat)), y2, y3, some (.ref p), y8, y9, y10] ∧ Same H'' H3 ∧ H3 p = some (.lst ((((nms.zip rs).take i).map (lnS (mx (nL nms)) (mx (rL rs).flatten))).map V.str)))
    ⟨y2, y3, none, none, none, rfl, s1, upd_same⟩ (fun i σ' H3 hi hP => ?_) (fun σ' H3 hP => ?_)
  · obtain ⟨y2, y3, y8, y9, y10, rfl, s3, hp⟩ := hP
    have hin : i < nms.length := by omega
    have hir : i < rs.length := by omega
    have hz : nms[i]? = some nms[i] := List.getElem?_eq_getElem hin
    have hr : rs[i]? = some rs[i] := List.getElem?_eq_getElem hir
    generalize nms[i] = z at hz
    generalize rs[i] = r at hr
    have hzl := hnl z (List.mem_of_getElem? hz)
    obtain ⟨r40, rok⟩ := hok.2 r (List.mem_of_getElem? hr)
    have hA3 := s3.seq hA
    have hT3 := (hT.same s3).1
    have hR3 := row_of (hT.same s3) hr
    have ix : atI (nms.map V.str) (i : Int) = some (.str z) := atI_nat (by rw [List.getElem?_map, hz]; rfl)
    have ixr : atI (rs.map fun r => V.ref r.1) (i : Int) = some (.ref r.1) := atI_nat (by rw [List.getElem?_map, hr]; rfl)
    have zL : z.cps.toList.length ≤ mx (nL nms) := mx_ge (List.mem_map.mpr ⟨z, List.mem_of_getElem? hz, rfl⟩)
    have zl2 : z.length = z.cps.toList.length := TL.len_tl z
    walk_at "go"
    refine g_mulS (by decide +kernel) (by omega) (by omega) ?_
    rw [mul_sp]
    refine g_addS (sz_le (by rw [S_len (sp _), sp_len]; omega)) ?_
    have line_le : ∀ j, (S (lineL (mx (nL nms)) (mx (rL rs).flatten) z.cps.toList ((r.2.take j).map wl))).length ≤ 60 + 40 * 6 := fun j => by
      rw [S_len]
      refine Nat.le_trans (line_len (n := 40) zL (fun u hu => ?_) (by rw [List.length_map, List.length_take]; omega)) (by
        have := Nat.mul_le_mul_left 40 (show mx (rL rs).flatten + 1 ≤ 6 by omega)
        omega)
      obtain ⟨o, ho, rfl⟩ := List.mem_map.mp hu
      exact mx_ge (List.mem_flatten.mpr ⟨r.2.map wl, List.mem_map.mpr ⟨r, List.mem_of_getElem? hr, rfl⟩, List.mem_map.mpr ⟨o, List.mem_of_mem_take ho, rfl⟩⟩)
    rw [show z ++ S (sp (((mx (nL nms) : Nat) : Int) - (z.length : Nat)).toNat) = S (lineL (mx (nL nms)) (mx (rL rs).flatten) z.cps.toList ((r.2.take 0).map wl)) by
      rw [← S_tl z, S_cat, S_tl, zl2]
      unfold lineL
      rw [show (((mx (nL nms) : Nat) : Int) - (z.cps.toList.length : Nat)).toNat = mx (nL nms) - z.cps.toList.length by omega]
      simp]
    walk_at "go"
    refine f_list hR3 (fun j σ2 H4 => ∃ y3 y10, σ2 = [some (.ref a), some (.ref t), some (.int (mx (nL nms) : Nat)), y1, some (.int (mx (rL rs).flatten : Nat)), y2, y3, some (.ref p), some (.int i), some (.str (S (lineL (mx (nL nms)) (mx (rL rs).flatten) z.cps.toList ((r.2.take j).map wl)))), y10] ∧ H4 = H3) ⟨y3, y10, rfl, rfl⟩
      (fun j σ2 H4 _ ⟨_, _, _, e⟩ => by rw [e]; exact hR3) (fun j x σ2 H4 hx hP => ?_) (fun σ2 H4 hP => ?_)
    · obtain ⟨y3, y10, rfl, rfl⟩ := hP
      obtain ⟨o, ho, rfl⟩ := map_atG hx
      have hoo := rok o (List.mem_of_getElem? ho)
      have h5 := wS_len hoo
      have wW : (wl o).length ≤ mx (rL rs).flatten := mx_ge (List.mem_flatten.mpr ⟨r.2.map wl, List.mem_map.mpr ⟨r, List.mem_of_getElem? hr, rfl⟩, List.mem_map.mpr ⟨o, List.mem_of_getElem? ho, rfl⟩⟩)
      have ll := line_le j
      have wl2 : (wS o).length = (wl o).length := TL.len_tl _
      walk_at "go"
      refine ⟨o, rfl, hoo, ?_⟩
      walk_at "go"
      refine g_addS (sz_le (by rw [show (Str.ofString " ").length = 1 by decide +kernel]; omega)) ?_
      walk_at "go"
      refine g_mulS (by decide +kernel) (by omega) (by omega) ?_
      rw [mul_sp]
      refine g_addS (sz_le (by rw [WL.len_cat, show (Str.ofString " ").length = 1 by decide +kernel, S_len (sp _), sp_len]; omega)) ?_
      walk_at "go"
      refine g_addS (sz_le (by rw [WL.len_cat, WL.len_cat, show (Str.ofString " ").length = 1 by decide +kernel, S_len (sp _), sp_len]; omega)) ?_
      walk_at "go"
      refine ⟨some (wV o), some (.str (wS o)), ?_, rfl⟩
      rw [show S (lineL (mx (nL nms)) (mx (rL rs).flatten) z.cps.toList ((r.2.take j).map wl)) ++ Str.ofString " " ++ S (sp (((mx (rL rs).flatten : Nat) : Int) - ((wS o).length : Nat)).toNat) ++ wS o = S (lineL (mx (nL nms)) (mx (rL rs).flatten) z.cps.toList ((r.2.take (j + 1)).map wl)) by
        rw [take_snoc ho, List.map_append, List.map_singleton, line_snoc, ← S_tl (wS o), one_sp, S_cat, S_cat, S_cat, S_tl, wl2,
          show (((mx (rL rs).flatten : Nat) : Int) - ((wl o).length : Nat)).toNat = mx (rL rs).flatten - (wl o).length by omega]; rfl]
    · obtain ⟨y3, y10, rfl, rfl⟩ := hP
      rw [List.length_map, List.take_length]
      walk_at "go"
      refine g_app hp (sz_lt (by simp; omega)) ?_
      refine ⟨y2, y3, _, _, _, rfl, same_mut s3 np, ?_⟩
      rw [upd_same, take_snoc (l := nms.zip rs) (x := (z, r)) (by rw [List.getElem?_zip_eq_some]; exact ⟨hz, hr⟩), List.map_append, List.map_append]
      rfl
  · obtain ⟨y2, y3, y8, y9, y10, rfl, s3, hp⟩ := hP
    rw [show ((nms.length : Nat) : Int).toNat = (nms.zip rs).length by rw [List.length_zip]; omega, List.take_length] at hp
    walk_at "go"
    refine g_join (SqL.of hp) (join_size hok hl hnl) ?_
    rw [text_of]
    exact q _ s3
end
end K41
set_option Elab.async false
set_option linter.all false
set_option maxRecDepth 100000
set_option maxHeartbeats 4000000
namespace K41
open PySem PySem.Spec PyProof.Rows L2 WL
local macro_rules | `(tactic| walk_at "lk") => `(tactic| first
  | exact upd_same
  | assumption
  | (rw [upd_ne (by assumption)]; first | exact upd_same | assumption | (rw [upd_ne (by assumption)]; first | exact upd_same | assumption | (rw [upd_ne (by assumption)]; first | exact upd_same | assumption))))
local macro_rules | `(tactic| walk_at "go1") => `(tactic| first
  | (with_reducible refine g_seq ?_)
  | (with_reducible refine g_asg ?_)
  | (with_reducible refine g_name ?_)
  | (with_reducible refine g_sub ?_)
  | ((with_reducible refine' g_var ?gv ?_); (case gv => exact rfl))
  | (with_reducible refine g_c ?_)
  | (with_reducible refine g_op ?_)
  | (with_reducible refine g_un ?_)
  | (with_reducible refine g_I0 ?_)
  | ((with_reducible refine g_I ?gc ?_); (case gc => first | assumption | decide | (show (0 : Int) < _; omega) | exact Or.inr ⟨by omega, by omega⟩ | exact Or.inl ⟨by omega, by omega⟩ | exact ⟨by omega, by omega⟩))
  | (with_reducible refine iteT ?_)
  | (with_reducible refine iteF ?_)
  | (with_reducible refine iteNT ?_)
  | (with_reducible refine iteNF ?_)
  | (with_reducible refine g_andV ?_)
  | (with_reducible refine g_orV ?_)
  | ((with_reducible refine' g_lenS (by assumption) ?_))
  | ((with_reducible refine' g_lenS (SqL.of (by walk_at "lk")) ?_))
  | (with_reducible refine g_U ?_)
  | ((with_reducible refine g_eq ?gs ?_); (case gs => rfl))
  | ((with_reducible refine g_ne ?gs ?_); (case gs => rfl))
  | (with_reducible refine g_drop ?_)
  | (with_reducible refine g_ret ?_)
  | (with_reducible refine g_next ?_)
  | (with_reducible refine g_ifS ?_)
  | (with_reducible refine g_ifE ?_)
  | (with_reducible refine g_test ?_)
  | (with_reducible refine g_tb ?_)
  | (with_reducible refine g_bl ?_)
  | (with_reducible refine g_not ?_)
  | (with_reducible refine g_and ?_)
  | (with_reducible refine g_or ?_)
  | (with_reducible refine g_nil ?_)
  | (with_reducible refine g_cons ?_)
  | (with_reducible refine g_cb ?_)
  | (with_reducible refine g_call ?_)
  | (with_reducible refine g_int ?_)
  | (with_reducible refine g_two ?_)
  | ((with_reducible refine g_lenStr ?gz ?_); (case gz => first | assumption | exact sz_le (by omega)))
  | (with_reducible refine g_m1 ?_)
  | (with_reducible refine g_isS ?_)
  | (with_reducible refine g_nn ?_)
  | (with_reducible refine g_yes ?_)
  | (with_reducible refine g_for ?_)
  | (with_reducible refine g_ckw ?_)
  | (with_reducible refine g_iZip ?_)
  | (with_reducible refine g_lc ?_)
  | (with_reducible refine g_lc2 ?_)
  | (with_reducible refine g_iList ?_)
  | (with_reducible refine g_iRng1 ?_)
  | (with_reducible refine g_iRng2 ?_)
  | (with_reducible refine g_sl ?_)
  | (with_reducible refine g_noPart ?_)
  | (with_reducible refine g_part ?_)
  | (with_reducible refine g_ex1 ?_)
  | (with_reducible refine g_bm ?_)
  | ((with_reducible refine' g_tyL (by walk_at "lk") ?_))
  | (with_reducible refine g_lst ?_)
  | (with_reducible refine g_tup ?_)
  | ((with_reducible refine' g_ixL (by assumption) ?ga ?_); (case ga => assumption))
  | ((with_reducible refine' g_ixL (SqL.of (by walk_at "lk")) ?ga ?_); (case ga => first | exact rfl | assumption))
  | ((with_reducible refine' g_setL2 ?ga ?gb ?_); (case ga => exact rfl); (case gb => exact rfl))
  | ((with_reducible refine' g_setL (by walk_at "lk") ?ga ?gb ?_); (case ga => exact rfl); (case gb => exact rfl)))
local macro_rules | `(tactic| walk_at "go") => `(tactic| ((repeat walk_at "go1"); try dsimp only [List.set, List.cons_append, List.nil_append]))
theorem mx_val {K : PySem.W.Frag} {H : Hp} {Q : VK} {p : Addr} (l : List (List Nat)) (hS : SqL K H p (l.map fun w => V.int (w.length : Nat))) (h : Q (.int (mx l : Nat)) H) : rMaxD K [.ref p] [.int 0] H Q := by
  refine ⟨p, l.map fun w => ((w.length : Nat) : Int), 0, rfl, rfl, by rw [List.map_map]; exact hS, fun e => ?_, fun m h1 h2 => ?_⟩
  · have : l = [] := by cases l with | nil => rfl | cons _ _ => cases e
    subst this; exact h
  · rw [mx_is h1 h2]; exact h
theorem lj {x : Str} {L : Nat} : Txt.ljust x (L : Int) = S (x.cps.toList ++ sp (L - x.cps.toList.length)) := by
  have e : x.length = x.cps.toList.length := TL.len_tl x
  unfold Txt.ljust
  split
  · rename_i h
    rw [show L - x.cps.toList.length = 0 by omega]
    show x = S (x.cps.toList ++ [])
    rw [List.append_nil]
  · refine TL.ext_tl ?_
    show (Array.replicate 0 32 ++ x.cps ++ Array.replicate ((L : Int).toNat - x.length) 32).toList = x.cps.toList ++ sp (L - x.cps.toList.length)
    simp [sp, e]
theorem rj {x : Str} {L : Nat} : Txt.rjust x (L : Int) = S (sp (L - x.cps.toList.length) ++ x.cps.toList) := by
  have e : x.length = x.cps.toList.length := TL.len_tl x
  unfold Txt.rjust
  split
  · rename_i h
    rw [show L - x.cps.toList.length = 0 by omega]
    show x = S ([] ++ x.cps.toList)
    exact (S_tl x).symm
  · refine TL.ext_tl ?_
    show (Array.replicate ((L : Int).toNat - x.length) 32 ++ x.cps ++ Array.replicate 0 32).toList = sp (L - x.cps.toList.length) ++ x.cps.toList
    simp [sp, e]
/-- the length of a text -/
def fLen : V → V
  | .str z => .int (z.length : Nat)
  | _ => .non
/-- the padded word -/
def fPad (W : Nat) : V → V
  | .str z => .str (S (sp (W - z.cps.toList.length) ++ z.cps.toList))
  | _ => .non
def rowAt (H : Hp) (a : Addr) : List V := match H a with
  | some (.lst xs) => xs
  | _ => []
section
variable {P : Program} {w : World} {K : PySem.W.Frag} {mg : Str → Option Value} {base : Heap}
theorem ok_wave_table (T : Txt K mg)  {f : Addr} {fd : FuncData} (F : Fun K "wave_table" "wave_table" s_wave_table f fd) : FnOk P w K mg base CX0 1 f fd ["names", "rows"] (spDue K) := by
  refine F.ok sc_wave_table (fun vs H Q E h => ?_) (fun cdv A outer s H vs Q E hr h => ?_)
  · obtain ⟨a, t, nms, rs, rfl, _⟩ := h
    rfl
  obtain ⟨a, t, nms, rs, rfl, hA, hT, hok, hl, hnl, q⟩ := h
  refine ⟨_, (pss_cons (ps_setLc (i := 2) (own := [("row", 7)]) rfl sc_wave_table.nd rfl rfl (sw_true rfl rfl rfl (by decide +kernel)) (kpi_list K (pv 1)) (blkOk_by (own := [("row", 7)]) (N := ["names", "rows", "written", "longest", "widest", "lines", "name", "row", "value", "word"]) (sc := defScope s_wave_table) (by decide +kernel)) (fun _ _ _ _ _ => (pg_name (i := 7) sc_wave_table.nd rfl (.inl rfl))) (fun _ _ _ _ _ => pts_nil) (fun _ _ _ _ _ => (pe_lc (own := [("value", 8)]) rfl sc_wave_table.nd (kpi_list K (pv 7)) (blkOk_by (own := [("value", 8)]) (N := ["names", "rows", "written", "longest", "widest", "lines", "name", "row", "value", "word"]) (sc := { kind := .function, names := [(Str.ofString ".0", .local), (Str.ofString "row", .local)], isGenerator := false, isCoroutine := false }) (by decide +kernel)) (fun _ _ _ _ _ => (pg_name (i := 8) sc_wave_table.nd rfl (.inl rfl))) (fun _ _ _ _ _ => pts_nil) (fun _ _ _ _ _ => (pe_ifExp (pt_cmpR op_isN (pv 8) pe_non (nomark _)) pe_str (pe_callTy call_str_int (by rfl) T.b_str (by decide +kernel) (pa_cons (pv 8) pa_nil)))))))
      (pss_cons (ps_set (i := 3) sc_wave_table.nd rfl (.inl rfl) (my_maxD K T.b_max rfl (by rfl) (pe_lc (own := [("name", 6)]) rfl sc_wave_table.nd (kpi_list K (pv 0)) (blkOk_by (own := [("name", 6)]) (N := ["names", "rows", "written", "longest", "widest", "lines", "name", "row", "value", "word"]) (sc := defScope s_wave_table) (by decide +kernel)) (fun _ _ _ _ _ => (pg_name (i := 6) sc_wave_table.nd rfl (.inl rfl))) (fun _ _ _ _ _ => pts_nil) (fun _ _ _ _ _ => (pe_callB call_len_str (by rfl) T.b_len (by decide +kernel) (pa_cons (pv 6) pa_nil)))) pe_int))
      (pss_cons (ps_set (i := 4) sc_wave_table.nd rfl (.inr rfl) (my_maxD K T.b_max rfl (by rfl) (pe_lc2 (own := [("row", 7), ("word", 9)]) (vs1 := [9]) rfl sc_wave_table.nd (kpi_list K (pv 2)) (blkOk_by (own := [("row", 7), ("word", 9)]) (N := ["names", "rows", "written", "longest", "widest", "lines", "name", "row", "value", "word"]) (sc := defScope s_wave_table) (by decide +kernel)) (by decide) (fun _ _ _ _ _ => (pg_name (i := 7) sc_wave_table.nd rfl (.inl rfl))) (fun _ _ _ _ _ => pts_nil) (fun _ _ _ _ _ => (kpi_list K (pv 7))) (fun _ _ _ _ _ => (pg_name (i := 9) sc_wave_table.nd rfl (.inl rfl))) (fun _ _ _ _ _ => pts_nil) (fun _ _ _ _ _ => (pe_callB call_len_str (by rfl) T.b_len (by decide +kernel) (pa_cons (pv 9) pa_nil)))) pe_int))
      (pss_cons (ps_set (i := 5) sc_wave_table.nd rfl (.inl rfl) (pe_lst pa_nil))
      (pss_cons (ps_for PassesOwn.never rfl (kpi_zip K (by rfl) T.b_zip (pa_cons (pv 0) (pa_cons (pv 2) pa_nil))) (kpg_tup K (n := 2) (by rfl) (pgs_cons (pg_name (i := 6) sc_wave_table.nd rfl (.inl rfl)) (pgs_cons (pg_name (i := 7) sc_wave_table.nd rfl (.inl rfl)) pgs_nil))) (pss_one (ps_expr (kpe_bm K PySem.F.plainAttrs_list PySem.F.slot_list_append PySem.F.type_list_append mt_append (pv 5) (pa_cons (kpe_join K pe_str (pe_op op_cat (pe_lst (pa_cons (pe_m1 PySem.F.slot_str_ljust PySem.F.type_str_ljust mt_ljust (pv 6) (pv 3)) pa_nil)) (pe_lc (own := [("word", 9)]) rfl sc_wave_table.nd (kpi_list K (pv 7)) (blkOk_by (own := [("word", 9)]) (N := ["names", "rows", "written", "longest", "widest", "lines", "name", "row", "value", "word"]) (sc := defScope s_wave_table) (by decide +kernel)) (fun _ _ _ _ _ => (pg_name (i := 9) sc_wave_table.nd rfl (.inl rfl))) (fun _ _ _ _ _ => pts_nil) (fun _ _ _ _ _ => (pe_m1 PySem.F.slot_str_rjust PySem.F.type_str_rjust mt_rjust (pv 9) (pv 4)))))) pa_nil)))))
      (pss_one (ps_ret (kpe_join K pe_str (pv 5))))))))), ?_⟩
  rw [show (L2.start ["names", "rows", "written", "longest", "widest", "lines", "name", "row", "value", "word"] [.ref a, .ref t] : L2.St) = [some (.ref a), some (.ref t), none, none, none, none, none, none, none, none] from rfl]
  try simp only [WL.cxK]
  have hr30 := hok.1
  have hL := mx_names hnl
  have hW := mx_rows hok
  walk_at "go"
  -- the words
  refine f_lcL hT.1 (fun D i H' => ∃ ps : List Addr, ps.length = i ∧ H' D = some (.lst (ps.map V.ref)) ∧ Same H H' ∧ (∀ p ∈ ps, p ≠ D) ∧ ∀ (j : Nat) p r, ps[j]? = some p → rs[j]? = some r → H' p = some (.lst (r.2.map fun o => V.str (wS o))))
    (fun D nD => ⟨[], rfl, upd_same, same_new nD, (fun _ h => by cases h), fun j p r h => by cases h⟩) (fun D i H' nD _ ⟨_, _, _, s, _⟩ => s.seq hT.1) (fun D i x H' nD hx hP => ?_) (fun D H1 nD hP => ?_)
  · obtain ⟨ps, hp, hD, s1, hne, hrow⟩ := hP
    obtain ⟨r, hr, rfl⟩ := map_atG hx
    obtain ⟨r40, rok⟩ := hok.2 r (List.mem_of_getElem? hr)
    have hR := row_of (hT.same s1) hr
    refine g_name ⟨rfl, ?_⟩
    walk_at "go"
    refine f_lcMap hR (by rw [List.length_map]; omega) (fun v => match v with | .int n => .str (Str.ofString (toString n)) | _ => .str (Str.ofString "-")) (fun _ => rfl) (fun k x H2 Q' hx2 s2 hq => ?_) (fun E nE => ?_)
    · obtain ⟨o, ho, rfl⟩ := map_atG hx2
      have hoo := rok o (List.mem_of_getElem? ho)
      cases o with
      | none =>
        simp only [wV] at hq ⊢
        walk_at "go"
        refine g_ite (fun _ => ?_) (fun e => absurd rfl e)
        walk_at "go"
        exact hq
      | some z =>
        simp only [wV] at hq ⊢
        walk_at "go"
        refine g_ite (fun e => by cases e) (fun _ => ?_)
        walk_at "go"
        obtain ⟨h0, h1⟩ := hoo
        exact ⟨z, rfl, Nat.lt_of_lt_of_le (PySem.Flt.log2_lt_of (k := 17) (by decide) (by omega)) (by decide), hq⟩
    · have nED : E ≠ D := (ne_of_none hD nE).symm
      refine ⟨ps.map V.ref, by rw [upd_ne nED.symm]; exact hD, sz_lt (by rw [List.length_map]; have := lt_at hr; omega), ps ++ [E], by simp [hp], by rw [upd_same, List.map_append]; rfl, same_mut (s1.trans (same_new nE)) nD, fun p hpm => ?_, fun j p r' h1 h2 => ?_⟩
      · rcases List.mem_append.mp hpm with h | h
        · exact hne p h
        · rw [List.mem_singleton.mp h]; exact nED
      · by_cases hj : j < ps.length
        · rw [List.getElem?_append_left hj] at h1
          have hpD := hne p (List.mem_of_getElem? h1)
          have hh := hrow j p r' h1 h2
          rw [upd_ne hpD, upd_ne (ne_of_none hh nE)]; exact hh
        · rw [List.getElem?_append_right (by omega)] at h1
          have hj0 : j - ps.length = 0 := by
            have := lt_at h1
            simp at this; omega
          rw [hj0] at h1
          have : E = p := Option.some.inj h1
          subst this
          have : j = i := by omega
          subst this
          rw [hr] at h2
          have : r = r' := Option.some.inj h2
          subst this
          rw [upd_ne nED, upd_same, List.map_map]
          congr 2
          refine List.map_congr_left fun o _ => ?_
          cases o <;> rfl
  obtain ⟨ps, hp, hD, s1, hne, hrow⟩ := hP
  rw [List.length_map] at hp
  have hA1 := s1.seq hA
  walk_at "go"
  -- longest
  refine f_lcMap hA1 (by rw [List.length_map]; omega) fLen (fun _ => rfl) (fun k x H2 Q' hx2 s2 hq => ?_) (fun E nE => ?_)
  · obtain ⟨z, hz, rfl⟩ := map_atS hx2
    have hzl := hnl z (List.mem_of_getElem? hz)
    walk_at "go"
    exact hq
  walk_at "go"
  refine mx_val (nL nms) (SqL.of (by rw [upd_same]; unfold nL; rw [List.map_map, List.map_map]; exact congrArg (fun l => some (HO.lst l)) (List.map_congr_left fun z _ => congrArg (fun n : Nat => V.int n) (TL.len_tl z)))) ?_
  walk_at "go"
  -- widest
  generalize hHa : upd H1 E (HO.lst (List.map fLen (List.map V.str nms))) = Ha
  have sa : Same H1 Ha := by rw [← hHa]; exact same_new nE
  have s2 : Same H Ha := s1.trans sa
  have hDa : Ha D = some (.lst (ps.map V.ref)) := sa _ _ hD
  have hrowa : ∀ (j : Nat) p r, ps[j]? = some p → rs[j]? = some r → Ha p = some (.lst (r.2.map fun o => V.str (wS o))) := fun j p r h1 h2 => sa _ _ (hrow j p r h1 h2)
  have hrows : ps.map (rowAt Ha) = rs.map fun r => r.2.map fun o => V.str (wS o) := by
    refine List.ext_getElem? fun j => ?_
    rw [List.getElem?_map, List.getElem?_map]
    by_cases hj : j < ps.length
    · have h1 := List.getElem?_eq_getElem hj
      have h2 := List.getElem?_eq_getElem (show j < rs.length by omega)
      rw [h1, h2]
      show some (rowAt Ha ps[j]) = some _
      unfold rowAt
      rw [hrowa j _ _ h1 h2]
    · rw [List.getElem?_eq_none_iff.mpr (by omega), List.getElem?_eq_none_iff.mpr (by omega)]; rfl
  have inrow : ∀ a ∈ ps, ∃ r ∈ rs, Ha a = some (.lst (r.2.map fun o => V.str (wS o))) ∧ rowAt Ha a = r.2.map fun o => V.str (wS o) := fun a ha => by
    obtain ⟨j, hj, rfl⟩ := List.getElem_of_mem ha
    have h2 := List.getElem?_eq_getElem (show j < rs.length by omega)
    have hh := hrowa j _ _ (List.getElem?_eq_getElem hj) h2
    exact ⟨_, List.getElem_mem _, hh, by unfold rowAt; rw [hh]⟩
  have hcount : ((rs.map fun r => r.2.map fun o => V.str (wS o)).flatten).length ≤ 1200 := by
    rw [List.length_flatten]
    have h := sum_le (B := 40) ((rs.map fun r => r.2.map fun o => V.str (wS o)).map List.length) fun x hx => by
      obtain ⟨l, hl, rfl⟩ := List.mem_map.mp hx
      obtain ⟨r, hr, rfl⟩ := List.mem_map.mp hl
      rw [List.length_map]; exact (hok.2 r hr).1
    rw [List.length_map, List.length_map] at h
    omega
  have strOf : ∀ r ∈ rs, ∀ x ∈ r.2.map (fun o => V.str (wS o)), ∃ o, okW o ∧ x = V.str (wS o) := fun r hr x hx => by
    obtain ⟨o, ho, rfl⟩ := List.mem_map.mp hx
    exact ⟨o, (hok.2 r hr).2 o ho, rfl⟩
  refine f_lc2Map (ps := ps) (rowAt Ha) (SqL.of hDa) (fun a ha => by
      obtain ⟨r, _, h1, h2⟩ := inrow a ha
      rw [h2]; exact SqL.of h1) (by rw [hrows]; omega) fLen (fun _ => rfl) (fun _ => rfl) (fun _ _ => rfl) (fun a x H2 Q' ha hx s3 hq => ?_) (fun G nG => ?_)
  · obtain ⟨r, hr, h1, h2⟩ := inrow a ha
    rw [h2] at hx
    obtain ⟨o, ho, rfl⟩ := strOf r hr x hx
    have h5 := wS_len ho
    walk_at "go"
    exact hq
  walk_at "go"
  refine mx_val (rL rs).flatten (SqL.of (by
    rw [upd_same, hrows]
    unfold rL
    rw [List.map_flatten, List.map_flatten, List.map_map, List.map_map]
    congr 4
    funext r
    show (r.2.map fun o => V.str (wS o)).map fLen = (r.2.map wl).map fun w => V.int (w.length : Nat)
    rw [List.map_map, List.map_map]
    refine List.map_congr_left fun o _ => ?_
    exact congrArg (fun n : Nat => V.int n) (TL.len_tl (wS o)))) ?_
  generalize hHb : upd Ha G (HO.lst (List.map fLen (List.map (rowAt Ha) ps).flatten)) = Hb
  have sb : Same Ha Hb := by rw [← hHb]; exact same_new nG
  have s3 : Same H Hb := s2.trans sb
  walk_at "go"
  refine ⟨by decide, fun p np => ?_⟩
  have s4 : Same Hb (upd Hb p (.lst [])) := same_new np
  walk_at "go"
  -- the lines
  refine ⟨a, D, nms.map V.str, ps.map V.ref, rfl, s4.seq (s3.seq hA), SqL.of (s4 _ _ (sb _ _ hDa)), RZ.for_zipL (by rw [List.length_map, List.length_map]; omega) (fun i σ' H' => ∃ y6 y7, σ' = [some (.ref a), some (.ref t), some (.ref D), some (.int (mx (nL nms) : Nat)), some (.int (mx (rL rs).flatten : Nat)), some (.ref p), y6, y7, none, none] ∧ Same Hb H' ∧ H' p = some (.lst ((((nms.zip rs).take i).map (lnS (mx (nL nms)) (mx (rL rs).flatten))).map V.str)))
    ⟨none, none, rfl, s4, upd_same⟩ (fun i σ' H' ⟨_, _, _, s, _⟩ => ⟨s.seq (s3.seq hA), SqL.of (s _ _ (sb _ _ hDa))⟩) (fun i x y U σ' H' hx hy hP nU => ?_) (fun σ' H' hP => ?_)⟩
  · obtain ⟨y6, y7, rfl, s5, hp⟩ := hP
    obtain ⟨z, hz, rfl⟩ := map_atS hx
    obtain ⟨pr, hpr, rfl⟩ := map_atG hy
    have hir := lt_at hpr
    have hr : rs[i]? = some rs[i] := List.getElem?_eq_getElem (by omega)
    generalize rs[i] = r at hr
    have hzl := hnl z (List.mem_of_getElem? hz)
    obtain ⟨r40, rok⟩ := hok.2 r (List.mem_of_getElem? hr)
    have zL : z.cps.toList.length ≤ mx (nL nms) := mx_ge (List.mem_map.mpr ⟨z, List.mem_of_getElem? hz, rfl⟩)
    refine ⟨U, [.str z, .ref pr], rfl, .inl (.inl upd_same), rfl, _, _, rfl, ?_⟩
    refine g_name ⟨_, _, rfl, ?_⟩
    refine g_name ⟨rfl, ?_⟩
    have npU : p ≠ U := ne_of_none hp nU
    have s6 : Same H' (upd H' U (.tup [V.str z, V.ref pr])) := same_new nU
    have hprow : H' pr = some (.lst (r.2.map fun o => V.str (wS o))) := s5 _ _ (sb _ _ (hrowa i pr r hpr hr))
    generalize hHc : upd H' U (.tup [V.str z, V.ref pr]) = Hc at s6
    have hpc : Hc p = some (.lst ((((nms.zip rs).take i).map (lnS (mx (nL nms)) (mx (rL rs).flatten))).map V.str)) := s6 _ _ hp
    walk_at "go"
    refine g_pad (padOk_small (by omega) (by omega)) ?_
    rw [lj]
    walk_at "go"
    refine ⟨sz_le (n := 1) (by decide), fun l1 nl1 => ?_⟩
    have s7 : Same Hc (upd Hc l1 (.lst [V.str (S (z.cps.toList ++ sp (mx (nL nms) - z.cps.toList.length)))])) := same_new nl1
    generalize hHd : upd Hc l1 (.lst [V.str (S (z.cps.toList ++ sp (mx (nL nms) - z.cps.toList.length)))]) = Hd at s7
    have hl1 : Hd l1 = some (.lst [V.str (S (z.cps.toList ++ sp (mx (nL nms) - z.cps.toList.length)))]) := by rw [← hHd]; exact upd_same
    walk_at "go"
    refine f_lcMap (SqL.of (s7 _ _ (s6 _ _ hprow))) (by rw [List.length_map]; omega) (fPad (mx (rL rs).flatten)) (fun _ => rfl) (fun k x H2 Q' hx2 _ hq => ?_) (fun D2 nD2 => ?_)
    · obtain ⟨o, ho, rfl⟩ := map_atG hx2
      walk_at "go"
      refine g_pad (padOk_small (by omega) (by omega)) ?_
      rw [rj]
      exact hq
    have nl2 : l1 ≠ D2 := ne_of_none hl1 nD2
    refine ⟨l1, D2, _, _, rfl, rfl, by rw [upd_ne nl2]; exact hl1, upd_same, ?_, fun m nm => ?_⟩
    · refine sz_le ?_
      rw [List.length_map, List.length_map]
      show 1 + r.2.length ≤ 100000
      omega
    have wW : ∀ o ∈ r.2, (wl o).length ≤ mx (rL rs).flatten := fun o ho => mx_ge (List.mem_flatten.mpr ⟨r.2.map wl, List.mem_map.mpr ⟨r, List.mem_of_getElem? hr, rfl⟩, List.mem_map.mpr ⟨o, ho, rfl⟩⟩)
    walk_at "go"
    refine g_join (ys := ((z.cps.toList ++ sp (mx (nL nms) - z.cps.toList.length)) :: (r.2.map wl).map fun w => sp (mx (rL rs).flatten - w.length) ++ w).map S) (SqL.of (by
      rw [upd_same, List.map_map, List.map_map, List.map_map, List.map_cons, List.map_map]
      refine congrArg (fun l => some (HO.lst l)) ?_
      exact congrArg (fun l => V.str (S (z.cps.toList ++ sp (mx (nL nms) - z.cps.toList.length))) :: l) (List.map_congr_left fun o _ => rfl))) ?_ ?_
    · have h := sum_le (B := 60) ((((z.cps.toList ++ sp (mx (nL nms) - z.cps.toList.length)) :: (r.2.map wl).map fun w => sp (mx (rL rs).flatten - w.length) ++ w).map S).map (·.length)) fun x hx => by
        obtain ⟨y, hy, rfl⟩ := List.mem_map.mp hx
        obtain ⟨u, hu, rfl⟩ := List.mem_map.mp hy
        rw [S_len]
        rcases List.mem_cons.mp hu with rfl | hu
        · rw [List.length_append, sp_len]; omega
        · obtain ⟨w, hw, rfl⟩ := List.mem_map.mp hu
          obtain ⟨o, ho, rfl⟩ := List.mem_map.mp hw
          have := wW o ho
          rw [List.length_append, sp_len]; omega
      rw [List.length_map, List.length_map, List.length_cons, List.length_map, List.length_map] at h
      rw [List.length_map, List.length_cons, List.length_map, List.length_map, show (Str.ofString " ").length = 1 by decide +kernel]
      have : (r.2.length + 1) * 60 ≤ 41 * 60 := Nat.mul_le_mul_right _ (by omega)
      omega
    rw [one_sp, S_join, line_join]
    have s8 : Same Hd (upd (upd Hd D2 (.lst ((r.2.map fun o => V.str (wS o)).map (fPad (mx (rL rs).flatten))))) m (.lst ([V.str (S (z.cps.toList ++ sp (mx (nL nms) - z.cps.toList.length)))] ++ (r.2.map fun o => V.str (wS o)).map (fPad (mx (rL rs).flatten))))) := (same_new nD2).trans (same_new nm)
    walk_at "go"
    refine g_app (s8 _ _ (s7 _ _ hpc)) (sz_lt (by simp; omega)) ?_
    have nHb : Hb p = none := np
    refine ⟨_, _, rfl, same_mut (((s5.trans s6).trans s7).trans s8) nHb, ?_⟩
    rw [upd_same, take_snoc (l := nms.zip rs) (x := (z, r)) (by rw [List.getElem?_zip_eq_some]; exact ⟨hz, hr⟩), List.map_append, List.map_append]
    rfl
  · obtain ⟨y6, y7, rfl, s5, hp⟩ := hP
    rw [show (nms.map V.str).length = (nms.zip rs).length by rw [List.length_zip, List.length_map]; omega, List.take_length] at hp
    walk_at "go"
    refine g_join (SqL.of hp) (join_size hok hl hnl) ?_
    rw [text_of]
    exact q _ (s3.trans s5)
end
end K41
set_option Elab.async false
set_option linter.all false
set_option maxRecDepth 100000
set_option maxHeartbeats 4000000
namespace K41
open PySem PySem.Spec PyProof.Rows L2 WL
local macro_rules | `(tactic| walk_at "lk") => `(tactic| first
  | exact upd_same
  | assumption
  | (rw [upd_ne (by assumption)]; first | exact upd_same | assumption | (rw [upd_ne (by assumption)]; first | exact upd_same | assumption | (rw [upd_ne (by assumption)]; first | exact upd_same | assumption))))
local macro_rules | `(tactic| walk_at "go1") => `(tactic| first
  | (with_reducible refine g_seq ?_)
  | (with_reducible refine g_asg ?_)
  | (with_reducible refine g_name ?_)
  | (with_reducible refine g_sub ?_)
  | ((with_reducible refine' g_var ?gv ?_); (case gv => exact rfl))
  | (with_reducible refine g_c ?_)
  | (with_reducible refine g_op ?_)
  | (with_reducible refine g_un ?_)
  | (with_reducible refine g_I0 ?_)
  | ((with_reducible refine g_I ?gc ?_); (case gc => first | assumption | decide | (show (0 : Int) < _; omega) | exact Or.inr ⟨by omega, by omega⟩ | exact Or.inl ⟨by omega, by omega⟩ | exact ⟨by omega, by omega⟩))
  | (with_reducible refine iteT ?_)
  | (with_reducible refine iteF ?_)
  | (with_reducible refine iteNT ?_)
  | (with_reducible refine iteNF ?_)
  | (with_reducible refine g_andV ?_)
  | (with_reducible refine g_orV ?_)
  | ((with_reducible refine' g_lenS (by assumption) ?_))
  | ((with_reducible refine' g_lenS (SqL.of (by walk_at "lk")) ?_))
  | (with_reducible refine g_U ?_)
  | ((with_reducible refine g_eq ?gs ?_); (case gs => rfl))
  | ((with_reducible refine g_ne ?gs ?_); (case gs => rfl))
  | (with_reducible refine g_drop ?_)
  | (with_reducible refine g_ret ?_)
  | (with_reducible refine g_next ?_)
  | (with_reducible refine g_ifS ?_)
  | (with_reducible refine g_ifE ?_)
  | (with_reducible refine g_test ?_)
  | (with_reducible refine g_tb ?_)
  | (with_reducible refine g_bl ?_)
  | (with_reducible refine g_not ?_)
  | (with_reducible refine g_and ?_)
  | (with_reducible refine g_or ?_)
  | (with_reducible refine g_nil ?_)
  | (with_reducible refine g_cons ?_)
  | (with_reducible refine g_cb ?_)
  | (with_reducible refine g_call ?_)
  | (with_reducible refine g_int ?_)
  | (with_reducible refine g_two ?_)
  | ((with_reducible refine g_lenStr ?gz ?_); (case gz => first | assumption | exact sz_le (by omega)))
  | (with_reducible refine g_m1 ?_)
  | (with_reducible refine g_isS ?_)
  | (with_reducible refine g_nn ?_)
  | (with_reducible refine g_yes ?_)
  | (with_reducible refine g_for ?_)
  | (with_reducible refine g_ckw ?_)
  | (with_reducible refine g_iZip ?_)
  | (with_reducible refine g_lc ?_)
  | (with_reducible refine g_lc2 ?_)
  | (with_reducible refine g_iList ?_)
  | (with_reducible refine g_iRng1 ?_)
  | (with_reducible refine g_iRng2 ?_)
  | (with_reducible refine g_sl ?_)
  | (with_reducible refine g_noPart ?_)
  | (with_reducible refine g_part ?_)
  | (with_reducible refine g_ex1 ?_)
  | (with_reducible refine g_bm ?_)
  | ((with_reducible refine' g_tyL (by walk_at "lk") ?_))
  | (with_reducible refine g_lst ?_)
  | (with_reducible refine g_tup ?_)
  | ((with_reducible refine' g_ixL (by assumption) ?ga ?_); (case ga => assumption))
  | ((with_reducible refine' g_ixL (SqL.of (by walk_at "lk")) ?ga ?_); (case ga => first | exact rfl | assumption))
  | ((with_reducible refine' g_setL2 ?ga ?gb ?_); (case ga => exact rfl); (case gb => exact rfl))
  | ((with_reducible refine' g_setL (by walk_at "lk") ?ga ?gb ?_); (case ga => exact rfl); (case gb => exact rfl)))
local macro_rules | `(tactic| walk_at "go") => `(tactic| ((repeat walk_at "go1"); try dsimp only [List.set, List.cons_append, List.nil_append]))
def dW : Option Int → PyData
  | none => .none
  | some n => .int n
def dT (rs : List (Addr × List (Option Int))) : PyData := .list (rs.map fun r => .list (r.2.map dW))
theorem dp_row {K : PySem.W.Frag} {H : Hp} : ∀ l : List (Option Int), DpAll K H (l.map wV) (l.map dW)
  | [] => .nil
  | none :: r => .cons .non (dp_row r)
  | some n :: r => .cons (.int n) (dp_row r)
theorem dp_rows {K : PySem.W.Frag} {H : Hp} : ∀ rs : List (Addr × List (Option Int)), (∀ r ∈ rs, SqL K H r.1 (r.2.map wV)) → DpAll K H (rs.map fun r => V.ref r.1) (rs.map fun r => PyData.list (r.2.map dW))
  | [], _ => .nil
  | r :: l, h => .cons (.lst (h r List.mem_cons_self) (dp_row r.2)) (dp_rows l fun u hu => h u (List.mem_cons_of_mem _ hu))
theorem Tab.dp {K : PySem.W.Frag} {H : Hp} {t : Addr} {rs : List (Addr × List (Option Int))} (h : Tab K H t rs) : Dp K H (.ref t) (dT rs) := .lst h.1 (dp_rows rs h.2)
theorem lay_row : ∀ l : List (Option Int), PyData.canLayAll0 (l.map dW) = true ∧ PyData.depthAll (l.map dW) = 0
  | [] => ⟨rfl, rfl⟩
  | none :: r => by obtain ⟨a, b⟩ := lay_row r; simp [PyData.canLayAll0, PyData.canLay0, PyData.depthAll, PyData.depth, dW, a, b]
  | some n :: r => by obtain ⟨a, b⟩ := lay_row r; simp [PyData.canLayAll0, PyData.canLay0, PyData.depthAll, PyData.depth, dW, a, b]
theorem lay_rows : ∀ rs : List (Addr × List (Option Int)), PyData.canLayAll0 (rs.map fun r => PyData.list (r.2.map dW)) = true ∧ PyData.depthAll (rs.map fun r => PyData.list (r.2.map dW)) ≤ 1
  | [] => ⟨rfl, Nat.zero_le _⟩
  | r :: l => by
    obtain ⟨a, b⟩ := lay_row r.2
    obtain ⟨c, d⟩ := lay_rows l
    constructor
    · simp [PyData.canLayAll0, PyData.canLay0, a, c]
    · simp only [List.map_cons, PyData.depthAll, PyData.depth, b]; omega
theorem dT_shaped (rs : List (Addr × List (Option Int))) : SeqAt.shaped (dT rs) = true := shaped_list (lay_rows rs).1 (Nat.le_trans (lay_rows rs).2 (by decide))
def spRight (K : PySem.W.Frag) : Sp := fun vs H Q _ => ∃ (a t : Addr) (nms : List Str) (rs : List (Addr × List (Option Int))), vs = [.ref a, .ref t] ∧ SqL K H a (nms.map V.str) ∧ Tab K H t rs ∧ TabOk rs ∧ nms.length = rs.length ∧ (∀ z ∈ nms, z.length ≤ 60 ∧ PyData.strOk z = true) ∧ ∀ H', Same H H' → Q (.bl true) H'
def spLaw (K : PySem.W.Frag) : Sp := fun vs H Q _ => ∃ (a : Addr) (ns : List Int), vs = [.ref a] ∧ SqL K H a (ns.map V.int) ∧ ns.length ≤ 63 ∧ ∀ H', Q (.bl true) H'
theorem Bag.same {c b : Addr} {H H' : Hp} (h : Bag c b H) (s : Same H H') : Bag c b H' := by
  obtain ⟨cells, x1, x2, x3, x4, x5, hb, hc, h1⟩ := h
  exact ⟨cells, x1, x2, x3, x4, x5, s _ _ hb, s _ _ hc, h1⟩
section
variable {P : Program} {w : World} {K : PySem.W.Frag} {mg : Str → Option Value} {base : Heap}
theorem ok__law_right (T : Txt K mg) (c_wave_table : C8.Cal P w K mg base 1 "wave_table" (spDue K) []) (c__law_due : C8.Cal P w K mg base 2 "_law_due" (spDue K) []) {f : Addr} {fd : FuncData} (F : Fun K "_law_right" "_law_right" s__law_right f fd) : FnOk P w K mg base CX0 3 f fd ["names", "table"] (spRight K) := by
  refine F.ok sc__law_right (fun vs H Q E h => ?_) (fun cdv A outer s H vs Q E hr h => ?_)
  · obtain ⟨a, t, nms, rs, rfl, _⟩ := h
    rfl
  obtain ⟨a, t, nms, rs, rfl, hA, hT, hok, hl, hn, q⟩ := h
  refine ⟨_, (pss_cons (ps_set (i := 2) sc__law_right.nd rfl (.inl rfl) (pe_callTy (kcall_list_of K) (by rfl) T.b_list (by decide +kernel) (pa_cons (pv 0) pa_nil)))
      (pss_cons (ps_setLc (i := 3) (own := [("row", 5)]) rfl sc__law_right.nd rfl rfl (sw_true rfl rfl rfl (by decide +kernel)) (kpi_list K (pv 1)) (blkOk_by (own := [("row", 5)]) (N := ["names", "table", "passed_names", "passed_rows", "told", "row"]) (sc := defScope s__law_right) (by decide +kernel)) (fun _ _ _ _ _ => (pg_name (i := 5) sc__law_right.nd rfl (.inl rfl))) (fun _ _ _ _ _ => pts_nil) (fun _ _ _ _ _ => (pe_callTy (kcall_list_of K) (by rfl) T.b_list (by decide +kernel) (pa_cons (pv 5) pa_nil))))
      (pss_cons (ps_set (i := 4) sc__law_right.nd rfl (.inl rfl) (C8.pe_c c_wave_table hr (by decide) (by rfl) (pa_cons (pv 2) (pa_cons (pv 3) pa_nil))))
      (pss_cons (ps_if (PW.pt (pw_or (pt_cmpR (kop_neD K hr.units) (pv 2) (pv 0) (nomark _)) (pw_or1 (pt_cmpR (kop_neD K hr.units) (pv 3) (pv 1) (nomark _))))) (pss_one (ps_ret pe_bl)) pss_nil)
      (pss_one (ps_ret (pe_and (pe_callB (kcall_isi K) (by rfl) T.b_isinstance (by decide +kernel) (pa_cons (pv 4) (pa_cons (pe_bltn (v := .ty "str") (by rfl) T.b_str (by decide +kernel) rfl) pa_nil))) (pe_one (pe_cmpR op_eq (pv 4) (C8.pe_c c__law_due hr (by decide) (by rfl) (pa_cons (pv 0) (pa_cons (pv 1) pa_nil))) (nomark _)))))))))), ?_⟩
  rw [show (L2.start ["names", "table", "passed_names", "passed_rows", "told", "row"] [.ref a, .ref t] : L2.St) = [some (.ref a), some (.ref t), none, none, none, none] from rfl]
  try simp only [WL.cxK]
  have hr30 := hok.1
  walk_at "go"
  intro l nl
  have s1 : Same H (upd H l (.lst (nms.map V.str))) := same_new nl
  generalize hH1 : upd H l (.lst (nms.map V.str)) = H1 at s1
  have hl1 : H1 l = some (.lst (nms.map V.str)) := by rw [← hH1]; exact upd_same
  walk_at "go"
  refine f_lcL (s1.seq hT.1) (fun D i H' => ∃ ps : List (Addr × List (Option Int)), ps.map (·.2) = (rs.take i).map (·.2) ∧ H' D = some (.lst (ps.map fun r => V.ref r.1)) ∧ Same H1 H' ∧ ∀ r ∈ ps, H' r.1 = some (.lst (r.2.map wV)) ∧ r.1 ≠ D)
    (fun D nD => ⟨[], rfl, upd_same, same_new nD, fun _ h => by cases h⟩) (fun D i H' nD _ ⟨_, _, _, s, _⟩ => s.seq (s1.seq hT.1)) (fun D i x H' nD hx hP => ?_) (fun D H2 nD hP => ?_)
  · obtain ⟨ps, hp, hD, s2, hrow⟩ := hP
    obtain ⟨r, hr, rfl⟩ := map_atG hx
    have hir := lt_at hr
    have hR := row_of (hT.same (s1.trans s2)) hr
    refine g_name ⟨rfl, ?_⟩
    walk_at "go"
    intro E nE
    have nED : E ≠ D := (ne_of_none hD nE).symm
    refine ⟨_, by rw [upd_ne nED.symm]; exact hD, sz_lt ?_, ps ++ [(E, r.2)], ?_, by rw [upd_same, List.map_append]; rfl, same_mut (s2.trans (same_new nE)) nD, fun u hu => ?_⟩
    · have := congrArg List.length hp
      rw [List.length_map, List.length_map, List.length_take] at this
      rw [List.length_map]; omega
    · rw [List.map_append, hp, take_snoc hr, List.map_append]; rfl
    · rcases List.mem_append.mp hu with h | h
      · obtain ⟨h1, h2⟩ := hrow u h
        exact ⟨by rw [upd_ne h2, upd_ne (ne_of_none h1 nE)]; exact h1, h2⟩
      · rw [List.mem_singleton.mp h]
        exact ⟨by rw [upd_ne nED, upd_same], nED⟩
  obtain ⟨ps, hp, hD, s2, hrow⟩ := hP
  rw [List.length_map, List.take_length] at hp
  have hlen : ps.length = rs.length := by have := congrArg List.length hp; rwa [List.length_map, List.length_map] at this
  have hTp : Tab K H2 D ps := ⟨SqL.of hD, fun r hr => SqL.of (hrow r hr).1⟩
  have hmem : ∀ r ∈ ps, ∃ r' ∈ rs, r.2 = r'.2 := fun r hr => by
    have : r.2 ∈ rs.map (·.2) := by rw [← hp]; exact List.mem_map.mpr ⟨r, hr, rfl⟩
    obtain ⟨r', h1, h2⟩ := List.mem_map.mp this
    exact ⟨r', h1, h2.symm⟩
  have hokp : TabOk ps := ⟨by omega, fun r hr => by
    obtain ⟨r', h1, h2⟩ := hmem r hr
    rw [h2]; exact hok.2 r' h1⟩
  have erL : rL ps = rL rs := by
    have e : ∀ l : List (Addr × List (Option Int)), rL l = (l.map (·.2)).map fun x => x.map wl := fun l => by unfold rL; rw [List.map_map]; rfl
    rw [e, e, hp]
  have edT : dT ps = dT rs := by
    have e : ∀ l : List (Addr × List (Option Int)), dT l = .list ((l.map (·.2)).map fun x => .list (x.map dW)) := fun l => by unfold dT; rw [List.map_map]; rfl
    rw [e, e, hp]
  walk_at "go"
  refine ⟨l, D, nms, ps, rfl, SqL.of (s2 _ _ hl1), hTp, hokp, by omega, fun z hz => (hn z hz).1, fun H3 s3 => ?_⟩
  rw [erL]
  have s03 : Same H H3 := (s1.trans s2).trans s3
  walk_at "go"
  refine ⟨_, _, .lst (SqL.of (s3 _ _ (s2 _ _ hl1))) (dpAll_strs nms), .lst (s03.seq hA) (dpAll_strs nms), shaped_strs fun z hz => (hn z hz).2, shaped_strs fun z hz => (hn z hz).2, ?_⟩
  rw [eqv_same (shaped_strs fun z hz => (hn z hz).2)]
  walk_at "go"
  refine ⟨_, _, (hTp.same s3).dp, (hT.same s03).dp, dT_shaped _, dT_shaped _, ?_⟩
  rw [edT, eqv_same (dT_shaped rs)]
  walk_at "go"
  refine g_isiB (.base (.str _)) (b := true) (by decide +kernel) ?_
  walk_at "go"
  refine ⟨a, t, nms, rs, rfl, s03.seq hA, hT.same s03, hok, hl, fun z hz => (hn z hz).1, fun H4 s4 => ?_⟩
  walk_at "go"
  rw [decide_eq_true rfl]
  exact q _ (s03.trans s4)
theorem ok_law (T : Txt K mg) (c__law_bag : C8.Cal P w K mg base 1 "_law_bag" (spBag K) []) (c__law_take : C8.Cal P w K mg base 1 "_law_take" spTake []) (c__law_names : C8.Cal P w K mg base 3 "_law_names" spNames []) (c__law_table : C8.Cal P w K mg base 3 "_law_table" spTable []) (c__law_right : C8.Cal P w K mg base 3 "_law_right" (spRight K) []) {f : Addr} {fd : FuncData} (F : Fun K "law" "law" s_law f fd) : FnOk P w K mg base CX0 4 f fd ["script"] (spLaw K) := by
  refine F.ok sc_law (fun vs H Q E h => ?_) (fun cdv A outer s H vs Q E hr h => ?_)
  · obtain ⟨a, ns, rfl, _⟩ := h
    rfl
  obtain ⟨a, ns, rfl, hS, hl, q⟩ := h
  refine ⟨_, (pss_cons (ps_set (i := 1) sc_law.nd rfl (.inl rfl) (C8.pe_c c__law_bag hr (by decide) (by rfl) (pa_cons (pv 0) pa_nil)))
      (pss_cons (ps_set (i := 2) sc_law.nd rfl (.inr rfl) (C8.pe_c c__law_take hr (by decide) (by rfl) (pa_cons (pv 1) (pa_cons pe_int pa_nil))))
      (Evl.pss_cut (ps_if (pt_cmpR op_eq (C8.pe_c c__law_take hr (by decide) (by rfl) (pa_cons (pv 1) (pa_cons pe_int pa_nil))) pe_int (nomark _)) (pss_one (ps_set (i := 2) sc_law.nd rfl (.inr rfl) (pe_op op_add (pv 2) pe_int))) pss_nil)
      (pss_cons (ps_set (i := 3) sc_law.nd rfl (.inl rfl) (C8.pe_c c__law_names hr (by decide) (by rfl) (pa_cons (pv 1) (pa_cons (pv 2) pa_nil))))
      (pss_cons (ps_set (i := 4) sc_law.nd rfl (.inr rfl) (C8.pe_c c__law_table hr (by decide) (by rfl) (pa_cons (pv 1) (pa_cons (pv 2) pa_nil))))
      (pss_cons (ps_if (pt_not (pt_val (C8.pe_c c__law_right hr (by decide) (by rfl) (pa_cons (pv 3) (pa_cons (pv 4) pa_nil))))) (pss_one (ps_ret pe_bl)) pss_nil)
      (pss_cons (ps_setLc (i := 5) (own := [("k", 6)]) rfl sc_law.nd rfl rfl (sw_true rfl rfl rfl (by decide +kernel)) (pi_range1 (by rfl) T.b_range (pa_cons (pv 2) pa_nil)) (blkOk_by (own := [("k", 6)]) (N := ["script", "bag", "many", "names", "table", "turned", "k", "out"]) (sc := defScope s_law) (by decide +kernel)) (fun _ _ _ _ _ => (pg_name (i := 6) sc_law.nd rfl (.inl rfl))) (fun _ _ _ _ _ => pts_nil) (fun _ _ _ _ _ => (pe_ix (kix_list K) (pv 4) (pe_op op_sub (pe_op op_sub (pv 2) pe_int) (pv 6)) (fun _ _ => rfl))))
      (pss_cons (ps_if (pt_not (pt_val (C8.pe_c c__law_right hr (by decide) (by rfl) (pa_cons (pv 3) (pa_cons (pv 5) pa_nil))))) (pss_one (ps_ret pe_bl)) pss_nil)
      (pss_cons (ps_for PassesOwn.never rfl (pi_range1 (by rfl) T.b_range (pa_cons (pe_callB (call_min2 rfl) (by rfl) T.b_min (by decide +kernel) (pa_cons (pv 2) (pa_cons pe_int pa_nil))) pa_nil)) (pg_name (i := 6) sc_law.nd rfl (.inl rfl)) (pss_one (ps_if (pt_not (pt_val (C8.pe_c c__law_right hr (by decide) (by rfl) (pa_cons (pe_lst (pa_cons (pe_ix (kix_list K) (pv 3) (pv 6) (fun _ _ => rfl)) pa_nil)) (pa_cons (pe_lst (pa_cons (pe_ix (kix_list K) (pv 4) (pv 6) (fun _ _ => rfl)) pa_nil)) pa_nil))))) (pss_one (ps_ret pe_bl)) pss_nil)))
      (pss_cons (ps_if (pt_cmpR op_gt (pv 2) pe_int (nomark _)) (pss_cons (ps_set (i := 7) sc_law.nd rfl (.inl rfl) (C8.pe_c c__law_take hr (by decide) (by rfl) (pa_cons (pv 1) (pa_cons (pv 2) pa_nil))))
      (pss_one (ps_if (pt_not (pt_val (C8.pe_c c__law_right hr (by decide) (by rfl) (pa_cons (pe_op op_cat (pe_slice (ksl_list K) (pv 3) po_none (po_some (pv 7))) (pe_slice (ksl_list K) (pv 3) (po_some (pe_op op_add (pv 7) pe_int)) po_none)) (pa_cons (pe_op op_cat (pe_slice (ksl_list K) (pv 4) po_none (po_some (pv 7))) (pe_slice (ksl_list K) (pv 4) (po_some (pe_op op_add (pv 7) pe_int)) po_none)) pa_nil))))) (pss_one (ps_ret pe_bl)) pss_nil))) pss_nil)
      (pss_one (ps_ret (C8.pe_c c__law_right hr (by decide) (by rfl) (pa_cons (pv 3) (pa_cons (pv 4) pa_nil))))))))))))))), ?_⟩
  rw [show (L2.start ["script", "bag", "many", "names", "table", "turned", "k", "out"] [.ref a] : L2.St) = [some (.ref a), none, none, none, none, none, none, none] from rfl]
  try simp only [WL.cxK]
  walk_at "go"
  refine ⟨a, ns, rfl, hS, hl, fun c b H1 _ _ _ B1 => ?_⟩
  walk_at "go"
  refine g_take B1 (by decide) (by decide) fun d H2 d0 d1 k2 B2 => ?_
  walk_at "go"
  refine ⟨fun σ' H' => ∃ n : Nat, σ' = [some (.ref a), some (.ref b), some (.int n), none, none, none, none, none] ∧ n ≤ 24 ∧ Bag c b H', ?_, fun σ' H' hm => ?_⟩
  · walk_at "go"
    refine g_take B2 (by decide) (by decide) fun d2 H3 _ _ k3 B3 => ?_
    walk_at "go"
    obtain ⟨m, rfl⟩ : ∃ m : Nat, d = m := ⟨d.toNat, by omega⟩
    refine g_iteI (fun e => ?_) (fun e => ?_)
    · walk_at "go"
      exact ⟨m + 18, rfl, by omega, B3⟩
    · walk_at "go"
      exact ⟨m, rfl, by omega, B3⟩
  obtain ⟨n, rfl, hn, B3⟩ := hm
  walk_at "go"
  refine ⟨b, c, n, rfl, B3, by omega, fun p nms H4 np k4 B4 hp hpl hpz => ?_⟩
  walk_at "go"
  refine ⟨b, c, n, rfl, B4, by omega, fun t rs H5 nt k5 B5 ht hrs hok hrl => ?_⟩
  have npb : p ≠ b := fun e => by
    obtain ⟨cells, x1, x2, x3, x4, x5, hb, _⟩ := B3; rw [e, hb] at np; cases np
  have hA : SqL K H5 p (nms.map V.str) := SqL.of (k5 _ _ hp npb)
  have hT : Tab K H5 t rs := ⟨SqL.of ht, fun r hr => SqL.of (hrs r hr).1⟩
  walk_at "go"
  refine ⟨p, t, nms, rs, rfl, hA, hT, hok, by omega, hpz, fun H6 s6 => ?_⟩
  have hA6 := s6.seq hA
  have hT6 := hT.same s6
  walk_at "go"
  have rsat : ∀ {m : Nat}, m < n → ∃ r, rs[m]? = some r := fun {m} hm => ⟨_, List.getElem?_eq_getElem (show m < rs.length by omega)⟩
  -- turned
  refine f_lcMapR (by omega) (by omega) (fun i => ((rs.map fun r => V.ref r.1)[n - 1 - i]?).getD .non) (fun _ => rfl) (fun i H7 Q' hi s7 hq => ?_) (fun D nD => ?_)
  · have hT7 := (s7.seq hT6.1)
    obtain ⟨r, hr⟩ := rsat (m := n - 1 - i) (by omega)
    have ix : (rs.map fun r => V.ref r.1)[n - 1 - i]? = some (.ref r.1) := by rw [List.getElem?_map, hr]; rfl
    simp only [ix] at hq
    walk_at "go"
    exact g_ixL hT7 (at_z (j := n - 1 - i) (by omega) ix) hq
  have eT : (List.range (n : Int).toNat).map (fun i => ((rs.map fun r => V.ref r.1)[n - 1 - i]?).getD .non) = rs.reverse.map fun r => V.ref r.1 := by
    refine List.ext_getElem? fun i => ?_
    rw [List.getElem?_map, List.getElem?_map]
    by_cases hi : i < n
    · obtain ⟨r, hr⟩ := rsat (m := n - 1 - i) (by omega)
      rw [List.getElem?_range (by omega), List.getElem?_reverse (by omega), show rs.length - 1 - i = n - 1 - i by omega, hr]
      show some (((rs.map fun r => V.ref r.1)[n - 1 - i]?).getD .non) = some (V.ref r.1)
      rw [List.getElem?_map, hr]; rfl
    · rw [List.getElem?_eq_none_iff.mpr (by rw [List.length_range]; omega), List.getElem?_eq_none_iff.mpr (by rw [List.length_reverse]; omega)]; rfl
  rw [eT]
  have s7 : Same H6 (upd H6 D (.lst (rs.reverse.map fun r => V.ref r.1))) := same_new nD
  have hT7 : Tab K (upd H6 D (.lst (rs.reverse.map fun r => V.ref r.1))) D rs.reverse := ⟨SqL.of upd_same, fun r hr => s7.seq (hT6.2 r (List.mem_reverse.mp hr))⟩
  have okr : TabOk rs.reverse := ⟨by rw [List.length_reverse]; exact hok.1, fun r hr => hok.2 r (List.mem_reverse.mp hr)⟩
  walk_at "go"
  refine ⟨p, D, nms, rs.reverse, rfl, s7.seq hA6, hT7, okr, by rw [List.length_reverse]; omega, hpz, fun H8 s8 => ?_⟩
  have s58 : Same H5 H8 := (s6.trans s7).trans s8
  walk_at "go"
  -- one by one
  refine f_rng1 (by split <;> omega) (by split <;> omega) (fun i σ' H' => ∃ y, σ' = [some (.ref a), some (.ref b), some (.int n), some (.ref p), some (.ref t), some (.ref D), y, none] ∧ Same H5 H') ⟨none, rfl, s58⟩ (fun i σ' H' hi hP => ?_) (fun σ' H' hP => ?_)
  · obtain ⟨y, rfl, s9⟩ := hP
    have hin : i < n := by split at hi <;> omega
    obtain ⟨r, hr⟩ := rsat hin
    have hz := List.getElem?_eq_getElem (show i < nms.length by omega)
    generalize nms[i] = z at hz
    have hA9 := s9.seq hA
    have ix : atI (nms.map V.str) (i : Int) = some (.str z) := atI_nat (by rw [List.getElem?_map, hz]; rfl)
    have ixr : atI (rs.map fun r => V.ref r.1) (i : Int) = some (.ref r.1) := atI_nat (by rw [List.getElem?_map, hr]; rfl)
    walk_at "go"
    refine ⟨sz_le (n := 1) (by decide), fun u nu => ?_⟩
    have s10 : Same H' (upd H' u (.lst [V.str z])) := same_new nu
    have hT10 := (hT.same (s9.trans s10)).1
    walk_at "go"
    refine ⟨sz_le (n := 1) (by decide), fun v nv => ?_⟩
    have nuv : u ≠ v := fun e => by rw [e, upd_same] at nv; cases nv
    have s11 := same_new (o := .lst [V.ref r.1]) nv
    walk_at "go"
    refine ⟨u, v, [z], [r], rfl, SqL.of (by rw [upd_ne nuv, upd_same]; rfl), ⟨SqL.of (by rw [upd_same]; rfl), fun r' hr' => ?_⟩, ⟨show 1 ≤ 30 by decide, fun r' hr' => ?_⟩, rfl, fun z' hz' => ?_, fun H12 s12 => ?_⟩
    · rw [List.mem_singleton.mp hr']
      exact s11.seq ((hT.same (s9.trans s10)).2 r (List.mem_of_getElem? hr))
    · rw [List.mem_singleton.mp hr']; exact hok.2 r (List.mem_of_getElem? hr)
    · rw [List.mem_singleton.mp hz']; exact hpz z (List.mem_of_getElem? hz)
    walk_at "go"
    exact ⟨_, rfl, ((s9.trans s10).trans s11).trans s12⟩
  obtain ⟨y, rfl, s9⟩ := hP
  have last : ∀ (z7 : Option V) H', Kp b H5 H' → tRet (tCall (spRight K) [] C8.E0 (tCons (tVar 3) (tCons (tVar 4) tNil))) { nx := fun x H' => Q V.non H', rt := Q } [some (.ref a), some (.ref b), some (.int n), some (.ref p), some (.ref t), some (.ref D), y, z7] H' := fun z7 H' k => by
    walk_at "go"
    exact ⟨p, t, nms, rs, rfl, k.seq npb hA, ⟨k.seq (fun e => by rw [e] at nt; obtain ⟨cells, x1, x2, x3, x4, x5, hb, _⟩ := B4; rw [hb] at nt; cases nt) hT.1, fun r hr => k.seq (fun e => by
      have h2 := (hrs r hr).2
      rw [e] at h2; obtain ⟨cells, x1, x2, x3, x4, x5, hb, _⟩ := B4; rw [hb] at h2; cases h2) (hT.2 r hr)⟩, hok, by omega, hpz, fun H'' _ => q _⟩
  walk_at "go"
  refine g_ite (fun e => ?_) (fun e => ?_)
  · walk_at "go"
    refine g_take (B5.same s9) (by omega) (by omega) fun o H10 o0 o1 k10 B10 => ?_
    obtain ⟨m, rfl⟩ : ∃ m : Nat, o = m := ⟨o.toNat, by omega⟩
    have k5' : Kp b H5 H10 := (Kp.same s9).trans k10
    have ntb : t ≠ b := fun e => by rw [e] at nt; obtain ⟨cells, x1, x2, x3, x4, x5, hb, _⟩ := B4; rw [hb] at nt; cases nt
    have nrb : ∀ r ∈ rs, r.1 ≠ b := fun r hr e => by
      have h2 := (hrs r hr).2
      rw [e] at h2; obtain ⟨cells, x1, x2, x3, x4, x5, hb, _⟩ := B4; rw [hb] at h2; cases h2
    have hA10 := k5'.seq npb hA
    have hT10 := k5'.seq ntb hT.1
    have hR10 : ∀ r ∈ rs, SqL K H10 r.1 (r.2.map wV) := fun r hr => k5'.seq (nrb r hr) (hT.2 r hr)
    walk_at "go"
    refine g_slL hA10 (cut_to _ m) fun u1 n1 => ?_
    have s1 := same_new (o := .lst ((nms.map V.str).take m)) n1
    generalize hh1 : upd H10 u1 (.lst ((nms.map V.str).take m)) = G1 at s1
    have g1 : G1 u1 = some (.lst ((nms.map V.str).take m)) := by rw [← hh1]; exact upd_same
    walk_at "go"
    refine g_slL (s1.seq hA10) (cut_from _ (m + 1)) fun u2 n2 => ?_
    have s2 := same_new (o := .lst ((nms.map V.str).drop (m + 1))) n2
    generalize hh2 : upd G1 u2 (.lst ((nms.map V.str).drop (m + 1))) = G2 at s2
    have g2 : G2 u2 = some (.lst ((nms.map V.str).drop (m + 1))) := by rw [← hh2]; exact upd_same
    refine ⟨u1, u2, _, _, rfl, rfl, s2 _ _ g1, g2, sz_le (by rw [List.length_take, List.length_drop, List.length_map]; omega), fun u3 n3 => ?_⟩
    have s3 := same_new (o := .lst ((nms.map V.str).take m ++ (nms.map V.str).drop (m + 1))) n3
    generalize hh3 : upd G2 u3 (.lst ((nms.map V.str).take m ++ (nms.map V.str).drop (m + 1))) = G3 at s3
    have g3 : G3 u3 = some (.lst ((nms.take m ++ nms.drop (m + 1)).map V.str)) := by rw [← hh3, upd_same, List.map_append, List.map_take, List.map_drop]
    have s13 := (s1.trans s2).trans s3
    walk_at "go"
    refine g_slL (s13.seq hT10) (cut_to _ m) fun u4 n4 => ?_
    have s4 := same_new (o := .lst ((rs.map fun r => V.ref r.1).take m)) n4
    generalize hh4 : upd G3 u4 (.lst ((rs.map fun r => V.ref r.1).take m)) = G4 at s4
    have g4 : G4 u4 = some (.lst ((rs.map fun r => V.ref r.1).take m)) := by rw [← hh4]; exact upd_same
    walk_at "go"
    refine g_slL ((s13.trans s4).seq hT10) (cut_from _ (m + 1)) fun u5 n5 => ?_
    have s5 := same_new (o := .lst ((rs.map fun r => V.ref r.1).drop (m + 1))) n5
    generalize hh5 : upd G4 u5 (.lst ((rs.map fun r => V.ref r.1).drop (m + 1))) = G5 at s5
    have g5 : G5 u5 = some (.lst ((rs.map fun r => V.ref r.1).drop (m + 1))) := by rw [← hh5]; exact upd_same
    refine ⟨u4, u5, _, _, rfl, rfl, s5 _ _ g4, g5, sz_le (by rw [List.length_take, List.length_drop, List.length_map]; omega), fun u6 n6 => ?_⟩
    have s6' := same_new (o := .lst ((rs.map fun r => V.ref r.1).take m ++ (rs.map fun r => V.ref r.1).drop (m + 1))) n6
    generalize hh6 : upd G5 u6 (.lst ((rs.map fun r => V.ref r.1).take m ++ (rs.map fun r => V.ref r.1).drop (m + 1))) = G6 at s6'
    have g6 : G6 u6 = some (.lst ((rs.take m ++ rs.drop (m + 1)).map fun r => V.ref r.1)) := by rw [← hh6, upd_same, List.map_append, List.map_take, List.map_drop]
    have s46 := (s4.trans s5).trans s6'
    have mr : ∀ r ∈ rs.take m ++ rs.drop (m + 1), r ∈ rs := fun r hr => (List.mem_append.mp hr).elim List.mem_of_mem_take List.mem_of_mem_drop
    have mz : ∀ r ∈ nms.take m ++ nms.drop (m + 1), r ∈ nms := fun r hr => (List.mem_append.mp hr).elim List.mem_of_mem_take List.mem_of_mem_drop
    walk_at "go"
    refine ⟨u3, u6, nms.take m ++ nms.drop (m + 1), rs.take m ++ rs.drop (m + 1), rfl, SqL.of (s46 _ _ g3), ⟨SqL.of g6, fun r hr => (s13.trans s46).seq (hR10 r (mr r hr))⟩, ⟨by rw [List.length_append, List.length_take, List.length_drop]; omega, fun r hr => hok.2 r (mr r hr)⟩,
      by rw [List.length_append, List.length_take, List.length_drop, List.length_append, List.length_take, List.length_drop]; omega, fun z hz => hpz z (mz z hz), fun H12 s12 => ?_⟩
    refine g_bl ?_
    refine iteNT ?_
    refine g_next ?_
    exact last _ _ (k5'.trans (Kp.same ((s13.trans s46).trans s12)))
  · refine g_next ?_
    exact last _ _ (Kp.same s9)
end
end K41
set_option Elab.async false
set_option linter.all false
set_option maxRecDepth 100000
set_option maxHeartbeats 4000000
namespace K41
open PySem PySem.Spec PyProof.Rows L2 WL
theorem all_mk {l : PySem.W.OpenLaw} {w : World} {K : PySem.W.Frag} {h : Heap} {mg : Str → Option Value} {fa f0 f1 f2 f3 f4 f5 f6 f7 f8 f9 f10 : Addr} (X : K.In h) (G : h.Ns mainGlobals mg) (hfa : mg "law" = some (.ref fa))
    {od0 an0 od1 an1 od2 an2 od3 an3 od4 an4 od5 an5 od6 an6 od7 an7 od8 an8 od9 an9 od10 an10 : Option Addr} {sl0 sl1 sl2 sl3 sl4 sl5 sl6 sl7 sl8 sl9 sl10 : Array (Option Value)} {oc0 kV0 dc0 pm0 cd0 ct0 oc1 kV1 dc1 pm1 cd1 ct1 oc2 kV2 dc2 pm2 cd2 ct2 oc3 kV3 dc3 pm3 cd3 ct3 oc4 kV4 dc4 pm4 cd4 ct4 oc5 kV5 dc5 pm5 cd5 ct5 oc6 kV6 dc6 pm6 cd6 ct6 oc7 kV7 dc7 pm7 cd7 ct7 oc8 kV8 dc8 pm8 cd8 ct8 oc9 kV9 dc9 pm9 cd9 ct9 oc10 kV10 dc10 pm10 cd10 ct10 : Value}
    (a0 : PySem.W.nsIn K mainGlobals "wave_table" = some (some (.ref f0))) (l0 : K.lookup f0 = some ⟨oc0, od0, .func (PySem.W.fnOf "wave_table" "wave_table" (defArgs s_wave_table) (defBody s_wave_table) (defScope s_wave_table) .none kV0 dc0 pm0 an0 cd0 ct0), sl0⟩) (c0 : PySem.W.codeIn K cd0 "wave_table" = true) (k0 : PySem.W.keepIn K (.ref f0) = true)
    (a1 : PySem.W.nsIn K mainGlobals "_law_bag" = some (some (.ref f1))) (l1 : K.lookup f1 = some ⟨oc1, od1, .func (PySem.W.fnOf "_law_bag" "_law_bag" (defArgs s__law_bag) (defBody s__law_bag) (defScope s__law_bag) .none kV1 dc1 pm1 an1 cd1 ct1), sl1⟩) (c1 : PySem.W.codeIn K cd1 "_law_bag" = true) (k1 : PySem.W.keepIn K (.ref f1) = true)
    (a2 : PySem.W.nsIn K mainGlobals "_law_take" = some (some (.ref f2))) (l2 : K.lookup f2 = some ⟨oc2, od2, .func (PySem.W.fnOf "_law_take" "_law_take" (defArgs s__law_take) (defBody s__law_take) (defScope s__law_take) .none kV2 dc2 pm2 an2 cd2 ct2), sl2⟩) (c2 : PySem.W.codeIn K cd2 "_law_take" = true) (k2 : PySem.W.keepIn K (.ref f2) = true)
    (a3 : PySem.W.nsIn K mainGlobals "_law_name" = some (some (.ref f3))) (l3 : K.lookup f3 = some ⟨oc3, od3, .func (PySem.W.fnOf "_law_name" "_law_name" (defArgs s__law_name) (defBody s__law_name) (defScope s__law_name) .none kV3 dc3 pm3 an3 cd3 ct3), sl3⟩) (c3 : PySem.W.codeIn K cd3 "_law_name" = true) (k3 : PySem.W.keepIn K (.ref f3) = true)
    (a4 : PySem.W.nsIn K mainGlobals "_law_worth" = some (some (.ref f4))) (l4 : K.lookup f4 = some ⟨oc4, od4, .func (PySem.W.fnOf "_law_worth" "_law_worth" (defArgs s__law_worth) (defBody s__law_worth) (defScope s__law_worth) .none kV4 dc4 pm4 an4 cd4 ct4), sl4⟩) (c4 : PySem.W.codeIn K cd4 "_law_worth" = true) (k4 : PySem.W.keepIn K (.ref f4) = true)
    (a5 : PySem.W.nsIn K mainGlobals "_law_names" = some (some (.ref f5))) (l5 : K.lookup f5 = some ⟨oc5, od5, .func (PySem.W.fnOf "_law_names" "_law_names" (defArgs s__law_names) (defBody s__law_names) (defScope s__law_names) .none kV5 dc5 pm5 an5 cd5 ct5), sl5⟩) (c5 : PySem.W.codeIn K cd5 "_law_names" = true) (k5 : PySem.W.keepIn K (.ref f5) = true)
    (a6 : PySem.W.nsIn K mainGlobals "_law_table" = some (some (.ref f6))) (l6 : K.lookup f6 = some ⟨oc6, od6, .func (PySem.W.fnOf "_law_table" "_law_table" (defArgs s__law_table) (defBody s__law_table) (defScope s__law_table) .none kV6 dc6 pm6 an6 cd6 ct6), sl6⟩) (c6 : PySem.W.codeIn K cd6 "_law_table" = true) (k6 : PySem.W.keepIn K (.ref f6) = true)
    (a7 : PySem.W.nsIn K mainGlobals "_law_written" = some (some (.ref f7))) (l7 : K.lookup f7 = some ⟨oc7, od7, .func (PySem.W.fnOf "_law_written" "_law_written" (defArgs s__law_written) (defBody s__law_written) (defScope s__law_written) .none kV7 dc7 pm7 an7 cd7 ct7), sl7⟩) (c7 : PySem.W.codeIn K cd7 "_law_written" = true) (k7 : PySem.W.keepIn K (.ref f7) = true)
    (a8 : PySem.W.nsIn K mainGlobals "_law_due" = some (some (.ref f8))) (l8 : K.lookup f8 = some ⟨oc8, od8, .func (PySem.W.fnOf "_law_due" "_law_due" (defArgs s__law_due) (defBody s__law_due) (defScope s__law_due) .none kV8 dc8 pm8 an8 cd8 ct8), sl8⟩) (c8 : PySem.W.codeIn K cd8 "_law_due" = true) (k8 : PySem.W.keepIn K (.ref f8) = true)
    (a9 : PySem.W.nsIn K mainGlobals "_law_right" = some (some (.ref f9))) (l9 : K.lookup f9 = some ⟨oc9, od9, .func (PySem.W.fnOf "_law_right" "_law_right" (defArgs s__law_right) (defBody s__law_right) (defScope s__law_right) .none kV9 dc9 pm9 an9 cd9 ct9), sl9⟩) (c9 : PySem.W.codeIn K cd9 "_law_right" = true) (k9 : PySem.W.keepIn K (.ref f9) = true)
    (a10 : PySem.W.nsIn K mainGlobals "law" = some (some (.ref f10))) (l10 : K.lookup f10 = some ⟨oc10, od10, .func (PySem.W.fnOf "law" "law" (defArgs s_law) (defBody s_law) (defScope s_law) .none kV10 dc10 pm10 an10 cd10 ct10), sl10⟩) (c10 : PySem.W.codeIn K cd10 "law" = true) (k10 : PySem.W.keepIn K (.ref f10) = true)
    (z_int : PySem.W.nsIn K mainGlobals "int" = some none)
    (z_isinstance : PySem.W.nsIn K mainGlobals "isinstance" = some none)
    (z_len : PySem.W.nsIn K mainGlobals "len" = some none)
    (z_list : PySem.W.nsIn K mainGlobals "list" = some none)
    (z_max : PySem.W.nsIn K mainGlobals "max" = some none)
    (z_min : PySem.W.nsIn K mainGlobals "min" = some none)
    (z_range : PySem.W.nsIn K mainGlobals "range" = some none)
    (z_str : PySem.W.nsIn K mainGlobals "str" = some none)
    (z_zip : PySem.W.nsIn K mainGlobals "zip" = some none)
    : ∃ fd : FuncData, (∀ (s : Shared) (v : Value), BindsTo s fd ⟨[v], []⟩ [("script", v)]) ∧ ∀ base : Heap, K.In base → base.Ns mainGlobals mg → FnOk l.prog w K mg base CX0 4 fa fd ["script"] (spLaw K) := by
  have e := hfa.symm.trans (PySem.W.mg_of X G a10)
  cases e
  have T : Txt K mg := ⟨PySem.W.mg_none_of X G z_int, PySem.W.mg_none_of X G z_isinstance, PySem.W.mg_none_of X G z_len, PySem.W.mg_none_of X G z_list, PySem.W.mg_none_of X G z_max, PySem.W.mg_none_of X G z_min, PySem.W.mg_none_of X G z_range, PySem.W.mg_none_of X G z_str, PySem.W.mg_none_of X G z_zip⟩
  have F0 := fun_mk (st := s_wave_table) l0 c0 k0
  have F1 := fun_mk (st := s__law_bag) l1 c1 k1
  have F2 := fun_mk (st := s__law_take) l2 c2 k2
  have F3 := fun_mk (st := s__law_name) l3 c3 k3
  have F4 := fun_mk (st := s__law_worth) l4 c4 k4
  have F5 := fun_mk (st := s__law_names) l5 c5 k5
  have F6 := fun_mk (st := s__law_table) l6 c6 k6
  have F7 := fun_mk (st := s__law_written) l7 c7 k7
  have F8 := fun_mk (st := s__law_due) l8 c8 k8
  have F9 := fun_mk (st := s__law_right) l9 c9 k9
  have F10 := fun_mk (st := s_law) l10 c10 k10
  have b0 := F0.binds (ps := ["names", "rows"]) fun _ _ _ _ _ _ us hl => match us, hl with | [_, _], _ => rfl
  have b1 := F1.binds (ps := ["script"]) fun _ _ _ _ _ _ us hl => match us, hl with | [_], _ => rfl
  have b2 := F2.binds (ps := ["bag", "many"]) fun _ _ _ _ _ _ us hl => match us, hl with | [_, _], _ => rfl
  have b3 := F3.binds (ps := ["bag"]) fun _ _ _ _ _ _ us hl => match us, hl with | [_], _ => rfl
  have b4 := F4.binds (ps := ["bag"]) fun _ _ _ _ _ _ us hl => match us, hl with | [_], _ => rfl
  have b5 := F5.binds (ps := ["bag", "many"]) fun _ _ _ _ _ _ us hl => match us, hl with | [_, _], _ => rfl
  have b6 := F6.binds (ps := ["bag", "many"]) fun _ _ _ _ _ _ us hl => match us, hl with | [_, _], _ => rfl
  have b7 := F7.binds (ps := ["worth"]) fun _ _ _ _ _ _ us hl => match us, hl with | [_], _ => rfl
  have b8 := F8.binds (ps := ["names", "table"]) fun _ _ _ _ _ _ us hl => match us, hl with | [_, _], _ => rfl
  have b9 := F9.binds (ps := ["names", "table"]) fun _ _ _ _ _ _ us hl => match us, hl with | [_, _], _ => rfl
  refine ⟨PySem.W.fnOf "law" "law" (defArgs s_law) (defBody s_law) (defScope s_law) .none kV10 dc10 pm10 an10 cd10 ct10, fun s v => .of_eq rfl, fun base _ _ => ?_⟩
  have c__law_bag : C8.Cal l.prog w K mg base 1 "_law_bag" (spBag K) [] := ⟨_, _, ["script"], [], ok__law_bag T  F1, PySem.W.mg_of X G a1, k1, b1, .nil⟩
  have c__law_take : C8.Cal l.prog w K mg base 1 "_law_take" spTake [] := ⟨_, _, ["bag", "many"], [], ok__law_take T  F2, PySem.W.mg_of X G a2, k2, b2, .nil⟩
  have c__law_name : C8.Cal l.prog w K mg base 2 "_law_name" spName [] := ⟨_, _, ["bag"], [], ok__law_name T c__law_take F3, PySem.W.mg_of X G a3, k3, b3, .nil⟩
  have c__law_names : C8.Cal l.prog w K mg base 3 "_law_names" spNames [] := ⟨_, _, ["bag", "many"], [], ok__law_names T c__law_take c__law_name F5, PySem.W.mg_of X G a5, k5, b5, .nil⟩
  have c__law_worth : C8.Cal l.prog w K mg base 2 "_law_worth" spWorth [] := ⟨_, _, ["bag"], [], ok__law_worth T c__law_take F4, PySem.W.mg_of X G a4, k4, b4, .nil⟩
  have c__law_table : C8.Cal l.prog w K mg base 3 "_law_table" spTable [] := ⟨_, _, ["bag", "many"], [], ok__law_table T c__law_take c__law_worth F6, PySem.W.mg_of X G a6, k6, b6, .nil⟩
  have c_wave_table : C8.Cal l.prog w K mg base 1 "wave_table" (spDue K) [] := ⟨_, _, ["names", "rows"], [], ok_wave_table T  F0, PySem.W.mg_of X G a0, k0, b0, .nil⟩
  have c__law_written : C8.Cal l.prog w K mg base 1 "_law_written" spWritten [] := ⟨_, _, ["worth"], [], ok__law_written T  F7, PySem.W.mg_of X G a7, k7, b7, .nil⟩
  have c__law_due : C8.Cal l.prog w K mg base 2 "_law_due" (spDue K) [] := ⟨_, _, ["names", "table"], [], ok__law_due T c__law_written F8, PySem.W.mg_of X G a8, k8, b8, .nil⟩
  have c__law_right : C8.Cal l.prog w K mg base 3 "_law_right" (spRight K) [] := ⟨_, _, ["names", "table"], [], ok__law_right T c_wave_table c__law_due F9, PySem.W.mg_of X G a9, k9, b9, .nil⟩
  exact ok_law T c__law_bag c__law_take c__law_names c__law_table c__law_right F10
end K41
open PySem PySem.W PyProof.Rows
set_option maxRecDepth 100000 in
set_option maxHeartbeats 0 in
theorem PySem.Challenge.cw_gatesworn_k41_wave_table_holds : PySem.Challenge.rw_gatesworn_k41_wave_table.Holds := by
  w_on; o_law; k_head; (case hw => w_witness2)
  k_fill
  refine L2.walk_of (l := PySem.Challenge.rw_gatesworn_k41_wave_table) (n := 63) (k := 4) (x := "script") (CX := fun _ => L2.CX0) (sp := fun w => K41.spLaw _) rfl (by decide) rfl ⟨rfl, by decide, by decide⟩ (fun w h Y => PySem.W.kIn_of Y) ?F (fun _ _ a ns hl _ hS => ⟨a, ns, rfl, hS, hl, fun _ => rfl⟩) (fun _ _ _ _ _ h => h)
  case F =>
    intro w mg fa h KX G hmg
    refine' K41.all_mk KX G hmg ?a0 ?l0 ?c0 ?k0 ?a1 ?l1 ?c1 ?k1 ?a2 ?l2 ?c2 ?k2 ?a3 ?l3 ?c3 ?k3 ?a4 ?l4 ?c4 ?k4 ?a5 ?l5 ?c5 ?k5 ?a6 ?l6 ?c6 ?k6 ?a7 ?l7 ?c7 ?k7 ?a8 ?l8 ?c8 ?k8 ?a9 ?l9 ?c9 ?k9 ?a10 ?l10 ?c10 ?k10 ?z_int ?z_isinstance ?z_len ?z_list ?z_max ?z_min ?z_range ?z_str ?z_zip
    (case a0 => k_is); (case l0 => k_is); (case c0 => k_is); (case k0 => k_is); (case a1 => k_is); (case l1 => k_is); (case c1 => k_is); (case k1 => k_is); (case a2 => k_is); (case l2 => k_is); (case c2 => k_is); (case k2 => k_is); (case a3 => k_is); (case l3 => k_is); (case c3 => k_is); (case k3 => k_is); (case a4 => k_is); (case l4 => k_is); (case c4 => k_is); (case k4 => k_is); (case a5 => k_is); (case l5 => k_is); (case c5 => k_is); (case k5 => k_is); (case a6 => k_is); (case l6 => k_is); (case c6 => k_is); (case k6 => k_is); (case a7 => k_is); (case l7 => k_is); (case c7 => k_is); (case k7 => k_is); (case a8 => k_is); (case l8 => k_is); (case c8 => k_is); (case k8 => k_is); (case a9 => k_is); (case l9 => k_is); (case c9 => k_is); (case k9 => k_is); (case a10 => k_is); (case l10 => k_is); (case c10 => k_is); (case k10 => k_is); (case z_int => k_is); (case z_isinstance => k_is); (case z_len => k_is); (case z_list => k_is); (case z_max => k_is); (case z_min => k_is); (case z_range => k_is); (case z_str => k_is); (case z_zip => k_is)
