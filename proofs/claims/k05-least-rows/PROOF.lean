import PyProof.Rows.All
import Wide.All
import OpenK.AllK
import Wide.FinOn
import HandS.ForMost
import HandS.SortKw
import HandS.Codes
import HandS.Strs
import HandS.Wide
import HandS.IsInst
import HandS.StrMore
import HandS.Steps
import HandS.Evl
import HandS.Zip
import HandS.Lambda
import HandS.Nested
import HandS.EndTab
import HandS.EndBits
import PySem.Challenge.RW_gatesworn_k05_least_rows
set_option Elab.async false
set_option linter.all false
set_option maxRecDepth 100000
set_option maxHeartbeats 4000000
namespace WL
open PySem PySem.Spec PyProof.Rows L2 PySem.W
/-! max of a list of ints with default= -/
section
variable {prog : Program} {w : World} {A : Around} {R : Result → Shared → Prop} {I : Addr} {fp wr : List Addr} {n : Nat} {P : Nat → Value → Prop} {St : Nat → Heap → Prop} {kw : List (Str × Value)}
theorem mxName : (toString "max" ++ toString ".loop" : String) = "max.loop" := by decide
/-- the turns behind the first one, whatever the keywords -/
theorem mx_turns (W : Walks prog w A.in1 I fp wr n P St) (bt : Nat → Nat → Bool) (cmp : CmpOf prog w A.in1 .Gt P bt) (S : Addr) (nf : S ∉ fp) : ∀ (k j : Nat) (s : Shared) (vb : Value) (c : Nat), n - (j + 1) = k → j + 1 ≤ n → St (j + 1) s.heap → P (argBest bt j) vb →
    s.heap.get? S = some { cls := .type "list", dict := none, data := .seq #[vb, vb] c, slots := #[] } →
    (∀ v h' tk, P (argBest bt (n - 1)) v → (∀ b o, b ∉ wr → b ≠ S → s.heap.get? b = some o → h'.get? b = some o) → R (.ok (.ret v)) { s with heap := h', toks := tk }) →
    codeAny (model prog w) A (.builtin "max.loop" ⟨[.ref I, .none, .ref S], kw⟩) R s := by
  have nw : S ∉ wr := fun h => nf (W.sub _ h)
  intro k; induction k with
  | zero =>
    intro j s vb c hk hj hst hPb hS hR
    have en : j + 1 = n := by omega
    refine codeAny_builtin F.entry_max_loop ?_; rw [Around.under_plainId F.plain_max_loop _]
    (show wpAny _ A.in1 (seqItems? (.ref S) >>= _) _ _ s); refine wpAny_bind (wpAny_seqItems hS rfl ?_)
    (show wpAny _ A.in1 (tryCatch (pyNext (.ref I)) _ >>= _) _ _ s); refine wpAny_bind (wpAny_tryCatch (W.done s _ _ (en ▸ hst) fun h' tk hk' => ?_))
    (show wpAny _ A.in1 (updateSeq S (fun _ => #[]) >>= _) _ _ _); refine wpAny_bind (wpAny_updateSeq (hk' S _ nw hS) rfl (wpAny_bind (wpAny_letGo (wpAny_pure ?_))))
    exact hR vb _ tk (by rw [← en]; exact hPb) fun b o hbw hbS e => (Heap.get?_update_other _ _ (Ne.symm hbS)).trans (hk' b o hbw e)
  | succ k ih =>
    intro j s vb c hk hj hst hPb hS hR
    have hlt : j + 1 < n := by omega
    refine codeAny_builtin F.entry_max_loop ?_; rw [Around.under_plainId F.plain_max_loop _]
    (show wpAny _ A.in1 (seqItems? (.ref S) >>= _) _ _ s); refine wpAny_bind (wpAny_seqItems hS rfl ?_)
    (show wpAny _ A.in1 (tryCatch (pyNext (.ref I)) _ >>= _) _ _ s); refine wpAny_bind (wpAny_tryCatch (W.item (j + 1) s _ _ hlt hst fun v h' tk hP hst' hk' => ?_))
    have hS' := hk' S _ nw hS
    (show wpAny _ A.in1 (tryCatch (holding [v, v] (richCompare .Gt v vb >>= _)) _ >>= _) _ _ _); refine wpAny_bind (wpAny_tryCatch (wpAny_holding (wpAny_bind (cmp (j + 1) (argBest bt j) v vb _ _ _ hP hPb ?_))))
    refine wpAny_bind (wpAny_holding (wpAny_truthy_bool ?_)); refine wpAny_bind (wpAny_letGo (wpAny_pure ?_))
    cases hb : bt (j + 1) (argBest bt j) with
    | true =>
      simp only [if_true]
      refine wpAny_bind (wpAny_updateSeq hS' rfl (wpAny_bind (wpAny_letGo ?_))); rw [mxName]
      refine wpAny_pure ⟨plainId_quiet F.plain_max_loop _, ih (j + 1) _ v _ (by omega) hlt (W.frame _ _ _ hst' fun b hbf o e => ?_) (by simp only [argBest, hb, if_true]; exact hP) (Heap.get?_update_self _ hS' rfl) fun v' h'' tk'' hP' hk'' => ?_⟩
      · exact (Heap.get?_update_other _ _ (fun q : S = b => nf (by rw [q]; exact hbf))).trans e
      · exact hR v' h'' tk'' hP' fun b o hbw hbS e => hk'' b o hbw hbS ((Heap.get?_update_other _ _ (Ne.symm hbS)).trans (hk' b o hbw e))
    | false =>
      simp only [Bool.false_eq_true, if_false]
      refine wpAny_bind (wpAny_letGo ?_); rw [mxName]
      refine wpAny_pure ⟨plainId_quiet F.plain_max_loop _, ih (j + 1) _ vb c (by omega) hlt hst' (by simp only [argBest, hb, Bool.false_eq_true, if_false]; exact hPb) hS' fun v' h'' tk'' hP' hk'' => ?_⟩
      exact hR v' h'' tk'' hP' fun b o hbw hbS e => hk'' b o hbw hbS (hk' b o hbw e)
/-- all turns, at least one item -/
theorem mx_first (W : Walks prog w A.in1 I fp wr n P St) (bt : Nat → Nat → Bool) (cmp : CmpOf prog w A.in1 .Gt P bt) (S : Addr) (nf : S ∉ fp) (hn : 0 < n) {s : Shared} {c : Nat} (hst : St 0 s.heap) (hS : s.heap.get? S = some { cls := .type "list", dict := none, data := .seq #[] c, slots := #[] })
    (hR : ∀ v h' tk, P (argBest bt (n - 1)) v → (∀ b o, b ∉ wr → b ≠ S → s.heap.get? b = some o → h'.get? b = some o) → R (.ok (.ret v)) { s with heap := h', toks := tk }) : codeAny (model prog w) A (.builtin "max.loop" ⟨[.ref I, .none, .ref S], kw⟩) R s := by
  have nw : S ∉ wr := fun h => nf (W.sub _ h)
  refine codeAny_builtin F.entry_max_loop ?_; rw [Around.under_plainId F.plain_max_loop _]
  (show wpAny _ A.in1 (seqItems? (.ref S) >>= _) _ _ s); refine wpAny_bind (wpAny_seqItems hS rfl ?_)
  (show wpAny _ A.in1 (tryCatch (pyNext (.ref I)) _ >>= _) _ _ s); refine wpAny_bind (wpAny_tryCatch (W.item 0 s _ _ hn hst fun v h' tk hP hst' hk' => ?_))
  have hS' := hk' S _ nw hS
  (show wpAny _ A.in1 (updateSeq S (fun _ => #[v, v]) >>= _) _ _ _); refine wpAny_bind (wpAny_updateSeq hS' rfl ?_); rw [mxName]
  refine wpAny_pure ⟨plainId_quiet F.plain_max_loop _, mx_turns W bt cmp S nf _ 0 _ v _ rfl hn (W.frame _ _ _ hst' fun b hbf o e => ?_) hP (Heap.get?_update_self _ hS' rfl) fun v' h'' tk'' hP' hk'' => ?_⟩
  · exact (Heap.get?_update_other _ _ (fun q : S = b => nf (by rw [q]; exact hbf))).trans e
  · exact hR v' h'' tk'' hP' fun b o hbw hbS e => hk'' b o hbw hbS ((Heap.get?_update_other _ _ (Ne.symm hbS)).trans (hk' b o hbw e))
/-- no item: the default -/
theorem mx_none (W : Walks prog w A.in1 I fp wr n P St) (S : Addr) (nf : S ∉ fp) (hn : n = 0) {d : Value} {s : Shared} {c : Nat} (hst : St 0 s.heap) (hS : s.heap.get? S = some { cls := .type "list", dict := none, data := .seq #[] c, slots := #[] })
    (hR : ∀ h' tk, (∀ b o, b ∉ wr → b ≠ S → s.heap.get? b = some o → h'.get? b = some o) → R (.ok (.ret d)) { s with heap := h', toks := tk }) : codeAny (model prog w) A (.builtin "max.loop" ⟨[.ref I, .none, .ref S], [("default", d)]⟩) R s := by
  subst hn
  refine codeAny_builtin F.entry_max_loop ?_; rw [Around.under_plainId F.plain_max_loop _]
  (show wpAny _ A.in1 (seqItems? (.ref S) >>= _) _ _ s); refine wpAny_bind (wpAny_seqItems hS rfl ?_)
  (show wpAny _ A.in1 (tryCatch (pyNext (.ref I)) _ >>= _) _ _ s); refine wpAny_bind (wpAny_tryCatch (W.done s _ _ hst fun h' tk hk' => ?_))
  refine wpAny_bind (wpAny_rule ?_)
  exact wpAny_pure (hR h' tk fun b o hbw _ e => hk' b o hbw e)
end
section
variable {prog : Program} {w : World} {A : Around} {E : Value → Shared → Prop} {s : Shared} {l : Addr} {xs : Array (Int × Tok)} {Q : Value → Shared → Prop}
theorem mx_args (a d : Value) : argsOk "max" ⟨[a], [(Str.ofString "default", d)]⟩ := by unfold argsOk; kernel_rfl
theorem mx_list {d : Value} (hh : A.handled = none) (hl : s.heap.IsList l (intItems xs)) (h0 : xs.size = 0 → ∀ h' tk, (∀ b o, s.heap.get? b = some o → h'.get? b = some o) → Q d { s with heap := h', toks := tk })
    (h1 : 0 < xs.size → ∀ v h' tk, (intItems xs)[argBest (fun i j => decide (numAt xs i > numAt xs j)) (xs.size - 1)]? = some v → (∀ b o, s.heap.get? b = some o → h'.get? b = some o) → Q v { s with heap := h', toks := tk }) :
    wpAny (model prog w) A (call (.builtin "max") [.ref l] [(Str.ofString "default", d)]) Q E s := by
  refine kmk_tree F.kind_max F.plain_max F.entry_max (mx_args _ _) ?_
  show wpAny _ A.in1 (Builtin.Builtins.bindParams "max" ["key", "default"] 0 ⟨[], [(Str.ofString "default", d)]⟩ >>= _) _ _ s
  refine wpAny_bind (wpAny_of_eq (show Builtin.Builtins.bindParams "max" ["key", "default"] 0 ⟨[], [(Str.ofString "default", d)]⟩ = pure [none, some d] from rfl) ?_)
  refine wpAny_bind (wpAny_pure ?_)
  refine wpAny_bind (iter_intList hl fun s₂ e st hfp hlI => ?_)
  refine wpAny_bind (wpAny_newObj_type ?_)
  have W := Walks.list (prog := prog) (w := w) (A := A.in1) hh _ l hlI (intItems xs)
  have nf : s₂.heap.objs.size ∉ [s.heap.objs.size, l] := fun hm => Nat.lt_irrefl _ (hfp _ hm)
  have st0 := W.frame 0 _ (s₂.heap.push { cls := .type "list", data := .seq (#[] : Array Value) }) st (fun b _ o e => Heap.get?_push_of_some _ e)
  have hS : (s₂.heap.push { cls := .type "list", data := .seq (#[] : Array Value) }).get? s₂.heap.objs.size = some { cls := .type "list", data := .seq (#[] : Array Value) } := Heap.get?_push_size _ rfl
  rw [mxName]
  subst e
  by_cases hz : xs.size = 0
  · refine wpAny_pure ⟨plainId_quiet F.plain_max_loop _, mx_none W _ nf (by simpa [intItems] using hz) st0 hS fun h' tk hk => ?_⟩
    exact h0 hz h' tk (old_kept fun b o hb e => hk b o hb (Nat.ne_of_lt (Heap.lt_size e)) (Heap.get?_push_of_some _ e))
  · refine wpAny_pure ⟨plainId_quiet F.plain_max_loop _, mx_first W _ (CmpOf.ints_gt (numAt xs) (fun _ _ => intItems_at)) _ nf (by simp [intItems]; omega) st0 hS fun v h' tk hP hk => ?_⟩
    exact h1 (by omega) v h' tk (by simpa [intItems] using hP) (old_kept fun b o hb e => hk b o hb (Nat.ne_of_lt (Heap.lt_size e)) (Heap.get?_push_of_some _ e))
end
/-- max(xs, default=d), xs a list of ints -/
def rMaxD (K : PySem.W.Frag) : List V → List V → Hp → VK → Prop := fun vs zs H Q => ∃ (a : Addr) (ns : List Int) (d : Int), vs = [V.ref a] ∧ zs = [V.int d] ∧ SqL K H a (ns.map V.int) ∧ (ns = [] → Q (.int d) H) ∧ (∀ m, m ∈ ns → (∀ y, y ∈ ns → y ≤ m) → Q (.int m) H)
theorem cr_maxD {X : Cx} (hc : X.calm = true) : CallRK X (.builtin "max") [Str.ofString "default"] (rMaxD X.K) := by
  intro pins s σ H vs zs us ws Q I r r2 h
  obtain ⟨a, ns, d, rfl, rfl, hs, q0, q1⟩ := h
  obtain ⟨its, rv, hl, _⟩ := I.list hs
  rw [Vals.ref1 r]
  obtain ⟨u, rfl, t, rfl⟩ : ∃ u, ws = [u] ∧ ∃ t, u = Value.int d t := by
    cases r2 with
    | cons a b => cases b; exact ⟨_, rfl, a⟩
  obtain ⟨xs, e⟩ := rv.ints.allInts.items
  have hn : numsOf (intItems xs).toList = ns := by rw [← e]; exact rv.ints.numsOf
  rw [nums_intItems] at hn
  subst hn
  have hl' := hl.isList
  rw [e] at hl'
  refine mx_list (I.ok.hd hc) hl' (fun hz h' tk hk => ⟨.int d, H, I.kept hk, ⟨_, rfl⟩, q0 ?_⟩) (fun hz v h' tk hv hk => ?_)
  · have : xs = #[] := Array.eq_empty_of_size_eq_zero hz
    subst this; rfl
  · obtain ⟨t, rfl⟩ := intItems_at hv
    obtain ⟨k1, k2⟩ := argBest_gt (numAt xs) (xs.size - 1)
    refine ⟨.int _, H, I.kept hk, ⟨_, rfl⟩, q1 _ ?_ fun y hy => ?_⟩
    · rw [numAt_eq]; exact PySem.getD_mem (by rw [List.length_map, Array.length_toList]; omega)
    · obtain ⟨j, hj, rfl⟩ := mem_getD hy
      rw [List.length_map, Array.length_toList] at hj
      rw [← numAt_eq]; exact k2 j (by omega)
theorem my_maxD {X : Cx} (K : PySem.W.Frag) {p pos kp : Pos} {e d : Expr} {te td : TE} (hm : X.mg "max" = none) (hc : X.calm = true) (hg : Gl X "max") (he : PE X e te) (hd : PE X d td)
    (h1 : backTo pos (starEach [e] X.env) = (false, eval e X.env) :: backTo pos (starEach [] X.env) := by rfl) (h2 : (backTo pos (starEach [e] X.env)).any (·.1) = false := by rfl) (h3 : starEach [e] X.env = (false, eval e X.env) :: starEach [] X.env := by rfl) (eK : X.K = K := by rfl) :
    PE X (.Call (.Name "max" p) [e] [⟨some "default", d, kp⟩] pos) (tCKw (rMaxD K) (tCons te tNil) (tCons td tNil)) := by
  subst eK
  exact pe_callBK (cr_maxD hc) hg hm (by decide +kernel) (pa_cons he pa_nil h3) (pk_cons hd pk_nil) (by decide) (by decide) h1 h2 rfl rfl rfl
/-- text * int -/
theorem op_mul_str {X : Cx} : OpR X (binaryOp .Mult) (fun x y H Q => ∃ z n, x = .str z ∧ y = .int n ∧ z.length ≤ 16 ∧ n ≤ 1048576 ∧ -(2 ^ 63 : Int) ≤ n ∧ Q (.str (Txt.mul z n)) H) := by
  intro pins s σ H x y v u Q I rx ry h
  obtain ⟨z, n, rfl, rfl, h1, h2, h3, q⟩ := h
  obtain ⟨t, rfl⟩ := rx
  obtain ⟨t', rfl⟩ := ry
  exact SB.mul (mulOk_of 16 1048576 h1 h2 h3 (by decide) (by decide)) fun t' k => ⟨.str (Txt.mul z n), H, I.tok _, ⟨_, rfl⟩, q⟩
end WL
set_option Elab.async false
set_option linter.all false
set_option maxRecDepth 100000
set_option maxHeartbeats 4000000
namespace WL
open PySem PySem.Spec PyProof.Rows L2 PySem.W
/-! ### heaps: all but b stays -/
def Kp (b : Addr) (H H' : Hp) : Prop := ∀ a o, H a = some o → a ≠ b → H' a = some o
theorem Kp.refl {b : Addr} (H : Hp) : Kp b H H := fun _ _ h _ => h
theorem Kp.trans {b : Addr} {H H1 H2 : Hp} (p : Kp b H H1) (q : Kp b H1 H2) : Kp b H H2 := fun a o h n => q a o (p a o h n) n
theorem Kp.set {b : Addr} {H H1 : Hp} {o : HO} (p : Kp b H H1) : Kp b H (upd H1 b o) := fun a u h n => by rw [upd_ne n]; exact p a u h n
theorem Kp.new {b p : Addr} {H H1 : Hp} {o : HO} (k : Kp b H H1) (hp : H1 p = none) : Kp b H (upd H1 p o) := fun a u h n => by
  have e := k a u h n
  rw [upd_ne (ne_of_none e hp)]; exact e
/-- an object that was not there may change -/
theorem Kp.mut {b p : Addr} {H H1 : Hp} {o : HO} (k : Kp b H H1) (hp : H p = none) : Kp b H (upd H1 p o) := fun a u h n => by
  rw [upd_ne (ne_of_none h hp)]; exact k a u h n
theorem Kp.same {b : Addr} {H H1 : Hp} (s : Same H H1) : Kp b H H1 := fun a o h _ => s a o h
theorem Kp.free {b a : Addr} {H H1 : Hp} (k : Kp b H H1) (n : a ≠ b) (h : H1 a = none) : H a = none := by
  cases e : H a with
  | none => rfl
  | some o => rw [k a o e n] at h; cases h
theorem Kp.seq {K : PySem.W.Frag} {b a : Addr} {xs : List V} {H H1 : Hp} (k : Kp b H H1) (n : a ≠ b) (h : SqL K H a xs) : SqL K H1 a xs := by
  rcases h with (h | ⟨o, h⟩) | h
  · exact .inl (.inl (k _ _ h n))
  · exact .inl (.inr ⟨o, k _ _ h n⟩)
  · exact .inr h
theorem same_new {H : Hp} {p : Addr} {o : HO} (h : H p = none) : Same H (upd H p o) := fun b x e => by
  rw [upd_ne (ne_of_none e h)]; exact e
theorem same_mut {H H1 : Hp} {p : Addr} {o : HO} (k : Same H H1) (hp : H p = none) : Same H (upd H1 p o) := fun a u h => by
  rw [upd_ne (ne_of_none h hp)]; exact k a u h
theorem cxK {CX : CXT} {P : Program} {w : World} {K : PySem.W.Frag} {mg : Str → Option Value} {base : Heap} {N : List Str} {qual : Str} {scope : Scope} {f : Addr} {cd : Value} {A : Around} {outer : List Env} {s : Shared} {H : Hp} {E : XK} : (cxOf CX P w K mg base N qual scope f cd A outer s H E).K = K := rfl
/-! ### the rules with the written part named -/
section
variable {X : Cx} (K : PySem.W.Frag)
theorem kix_list (e : X.K = K := by rfl) : IxR X (rIxL K) := by subst e; exact ix_list
theorem kix_tup (e : X.K = K := by rfl) : IxR X (rIxT K) := by subst e; exact ix_tup
theorem ksl_list (e : X.K = K := by rfl) : SlR X (rSlL K) := by subst e; exact sl_list
theorem ksl_tup (e : X.K = K := by rfl) : SlR X (rSlT K) := by subst e; exact sl_tup
theorem kop_in_seq (e : X.K = K := by rfl) : OpR X (compareOp .In) (rIn K false) := by subst e; exact op_in_seq
theorem kop_notIn_seq (e : X.K = K := by rfl) : OpR X (compareOp .NotIn) (rIn K true) := by subst e; exact op_notIn_seq
theorem kop_catT (e : X.K = K := by rfl) : OpR X (binaryOp .Add) (rCatT K) := by subst e; exact op_catT
theorem kcall_len_seq (e : X.K = K := by rfl) : CallR X (.builtin "len") (fun xs H Q => ∃ p ys, xs = [.ref p] ∧ (SqL K H p ys ∨ SqT K H p ys) ∧ Q (.int ys.length) H) := by subst e; exact call_len_seq
theorem kcall_list_of (e : X.K = K := by rfl) : CallR X (.type "list") (fun xs H Q => ∃ p ys, xs = [.ref p] ∧ (SqL K H p ys ∨ SqT K H p ys) ∧ ∀ l, H l = none → Q (.ref l) (upd H l (.lst ys))) := by subst e; exact call_list_of
theorem kcall_tuple_of (e : X.K = K := by rfl) : CallR X (.type "tuple") (fun xs H Q => ∃ p ys, xs = [.ref p] ∧ ((SqL K H p ys ∧ ∀ l, H l = none → Q (.ref l) (upd H l (.tup ys))) ∨ (SqT K H p ys ∧ Q (.ref p) H))) := by subst e; exact call_tuple_of
theorem kcr_sum (hc : X.calm = true := by rfl) (e : X.K = K := by rfl) : CallR X (.builtin "sum") (rSum K) := by subst e; exact cr_sum hc
theorem kcr_max (hc : X.calm = true := by rfl) (e : X.K = K := by rfl) : CallR X (.builtin "max") (rMax K) := by subst e; exact cr_max hc
theorem kcr_min (hc : X.calm = true := by rfl) (e : X.K = K := by rfl) : CallR X (.builtin "min") (rMin K) := by subst e; exact cr_min hc
theorem kop_eqD (hu : X.A.units + 64 < cLine) (e : X.K = K := by rfl) : OpR X (compareOp .Eq) (rEqD K) := by subst e; exact op_eqD hu
theorem kop_neD (hu : X.A.units + 64 < cLine) (e : X.K = K := by rfl) : OpR X (compareOp .NotEq) (rNeD K) := by subst e; exact op_neD hu
theorem kcall_isi (e : X.K = K := by rfl) : CallR X (.builtin "isinstance") (rIsi K) := by subst e; exact call_isi
theorem kcall_isiT (e : X.K = K := by rfl) : CallR X (.builtin "isinstance") (rIsiT K) := by subst e; exact call_isiT
theorem kpi_list {tg l : Expr} {tl : TE} (hl : PE X l tl) (e : X.K = K := by rfl) : PI X tg l (iList K tl) := by subst e; exact pi_list hl
theorem kpi_tup {tg l : Expr} {tl : TE} (hl : PE X l tl) (e : X.K = K := by rfl) : PI X tg l (iTup K tl) := by subst e; exact pi_tup hl
theorem kpt_truth {a : Expr} {ta : TE} (ha : PE X a ta) (he : ∀ whole, isTrue a X.env whole = (do let v ← whole; standAt a.pos; holding [v] (truthy v))) (e : X.K = K := by rfl) : PT X a (tTru K ta) := by subst e; exact pt_truth ha he
theorem kpe_bm {o ex : Expr} {es : List Expr} {T name id} {apos cpos : Pos} {r : V → List V → Hp → VK → Prop} {to : TE} {t : TA} (pa : PlainAttrs T) (slot : Slot T name id) (hty : typeOf (.builtin id) = pure (.type "method_descriptor")) (hm : MtR X id r) (ho : PE X o to) (ha : PA X (ex :: es) t)
    (hbase : attributeBase o name X.env (eval o X.env) = eval o X.env := by rfl) (hfew : ((backTo cpos (starEach (ex :: es) X.env)).all (fun x => !x.1) && (backToKw cpos (keywordEach [] X.env)).all (fun x => x.1.isSome) && decide ((ex :: es).length + ([] : List Keyword).length + (if ([] : List Keyword).isEmpty then 0 else 1) < 30)) = true := by rfl)
    (hline : (apos.endLine == cpos.line) = true := by rfl) (hs : starEach (ex :: es) X.env = (false, eval ex X.env) :: starEach es X.env := by rfl) (hplain : (backTo cpos (starEach es X.env)).any (·.1) = false := by rfl) (e : X.K = K := by rfl) :
    PE X (.Call (.Attribute o name apos) (ex :: es) [] cpos) (tBM K T r to t) := by subst e; exact pe_bm pa slot hty hm ho ha hbase hfew hline hs hplain
theorem kpe_bm0 {o : Expr} {T name id} {apos cpos : Pos} {r : V → List V → Hp → VK → Prop} {to : TE} (pa : PlainAttrs T) (slot : Slot T name id) (hty : typeOf (.builtin id) = pure (.type "method_descriptor")) (hm : MtR X id r) (ho : PE X o to)
    (hbase : attributeBase o name X.env (eval o X.env) = eval o X.env := by rfl) (hline : (apos.endLine == cpos.line) = true := by rfl) (e : X.K = K := by rfl) : PE X (.Call (.Attribute o name apos) [] [] cpos) (tBM0 K T r to) := by subst e; exact pe_bm0 pa slot hty hm ho hbase hline
theorem kpe_join {o ex : Expr} {to te : TE} {apos pos : Pos} (ho : PE X o to) (he : PE X ex te) (hs : starEach [ex] X.env = [(false, eval ex X.env)] := by rfl) (hbase : attributeBase o "join" X.env (eval o X.env) = eval o X.env := by rfl) (hline : (apos.endLine == pos.line) = true := by rfl) (e : X.K = K := by rfl) :
    PE X (.Call (.Attribute o "join" apos) [ex] [] pos) (tM1 (fun x xs H Q => ∃ a p, ∃ ys : List Str, x = .str a ∧ xs = [.ref p] ∧ (SqL K H p (ys.map V.str) ∨ SqT K H p (ys.map V.str)) ∧ (ys.map (·.length)).sum + ys.length * a.length ≤ 16777216 ∧ Q (.str (Txt.join a ys)) H) to te) := by subst e; exact pe_join ho he hs hbase hline
theorem kpg_tup {es : List Expr} {k : Nat} {t : TGs} {n : Nat} {pos : Pos} (hc : X.calm = true) (h : PGs X es t) (hn : (assignEach es X.env).length = n := by rfl) (hst : (assignEach es X.env).findIdx? (·.1) = none := by rfl) (e : X.K = K := by rfl) : PG X (.Tuple es k pos) (gTup K n t) := by subst e; exact pg_tup hc h hn hst
theorem kpi_zip {ex e2 : Expr} {ta : TA} {p pos tpos : Pos} {elts : List Expr} {kk : Nat} (hg : Gl X "zip") (hm : X.mg "zip" = none) (ha : PA X [ex, e2] ta) (hs : starEach [ex, e2] X.env = (false, eval ex X.env) :: starEach [e2] X.env := by rfl) (hpl : (backTo pos (starEach [e2] X.env)).any (·.1) = false := by rfl) (e : X.K = K := by rfl) :
    PI X (.Tuple elts kk tpos) (.Call (.Name "zip" p) [ex, e2] [] pos) (iZip K ta) := by subst e; exact pi_zip hg hm ha hs hpl
theorem kpi_enum {ex : Expr} {ta : TA} {p pos tpos : Pos} {elts : List Expr} {kk : Nat} (hg : Gl X "enumerate") (hm : X.mg "enumerate" = none) (ha : PA X [ex] ta) (hs : starEach [ex] X.env = [(false, eval ex X.env)] := by rfl) (e : X.K = K := by rfl) :
    PI X (.Tuple elts kk tpos) (.Call (.Name "enumerate" p) [ex] [] pos) (iEnum K ta) := by subst e; exact pi_enum hg hm ha hs
theorem kpi_reversed {tg ex : Expr} {ta : TA} {p pos : Pos} (hg : Gl X "reversed") (hm : X.mg "reversed" = none) (ha : PA X [ex] ta) (hs : starEach [ex] X.env = [(false, eval ex X.env)] := by rfl) (e : X.K = K := by rfl) : PI X tg (.Call (.Name "reversed" p) [ex] [] pos) (iRev K ta) := by subst e; exact pi_reversed hg hm ha hs
end
/-! ### steps of a reading -/
section
variable {K : PySem.W.Frag} {σ : L2.St} {H : Hp} {Q : VK} {D : Ends} {ta tb te tc : TE} {t u : TS} {c d : TT} {i j : Int} {x y v : V} {p : Addr} {xs : List V} {k : Nat} {b : Bool}
theorem g_seq (h : t { D with nx := u D } σ H) : tSeq t u D σ H := h
theorem g_asg {g : TG} (h : te σ H fun x H1 => g x σ H1 D.nx) : tAsg te g D σ H := h
theorem g_name {Q : L2.St → Hp → Prop} (h : Q (σ.set k (some v)) H) : gName k v σ H Q := h
theorem g_sub {to ti : TE} {r : TSet} {Q : L2.St → Hp → Prop} (h : to σ H fun o H1 => ti σ H1 fun i H2 => r o i v H2 fun H3 => Q σ H3) : gSub to ti r v σ H Q := h
theorem g_var (e : σ[k]? = some (some v)) (h : Q v H) : tVar k σ H Q := ⟨v, e, h⟩
theorem g_c (h : Q v H) : tC v σ H Q := h
theorem g_op {r : R2} (h : ta σ H fun x H1 => tb σ H1 fun y H2 => r x y H2 Q) : tOp r ta tb σ H Q := h
theorem g_un {r : V → Hp → VK → Prop} (h : ta σ H fun x H1 => r x H1 Q) : tUn r ta σ H Q := h
theorem g_I0 {g : Int → Int → V} (h : Q (g i j) H) : rI0 g (.int i) (.int j) H Q := ⟨i, j, rfl, rfl, h⟩
theorem g_I {C : Int → Int → Prop} {g : Int → Int → V} (hc : C i j) (h : Q (g i j) H) : rI C g (.int i) (.int j) H Q := ⟨i, j, rfl, rfl, hc, h⟩
theorem g_U {g : Int → V} (h : Q (g i) H) : rU g (.int i) H Q := ⟨i, rfl, h⟩
theorem g_eq (s : scal x y = true) (h : Q (.bl (decide (x = y))) H) : rEq x y H Q := ⟨s, h⟩
theorem g_ne (s : scal x y = true) (h : Q (.bl (!decide (x = y))) H) : rNe x y H Q := ⟨s, h⟩
theorem g_drop (h : te σ H fun _ H1 => D.nx σ H1) : tDrop te D σ H := h
theorem g_ret (h : te σ H D.rt) : tRet te D σ H := h
theorem g_next (h : D.nx σ H) : tNext D σ H := h
theorem g_ifS (h : c σ H fun b H1 => if b = true then t D σ H1 else u D σ H1) : tIfS c t u D σ H := h
theorem g_ifE (h : c σ H fun b H1 => if b = true then ta σ H1 Q else tb σ H1 Q) : tIf c ta tb σ H Q := h
theorem g_test {Q : Bool → Hp → Prop} (h : te σ H fun x H' => ∃ k, x = .bl k ∧ Q k H') : tTest te σ H Q := h
theorem g_tb {Q : Bool → Hp → Prop} (h : te σ H fun x H' => ∃ k, x = .bl k ∧ Q k H') : tB te σ H Q := h
theorem g_bl {Q : Bool → Prop} (h : Q b) : ∃ k, V.bl b = .bl k ∧ Q k := ⟨b, rfl, h⟩
theorem g_not {Q : Bool → Hp → Prop} (h : c σ H fun b H1 => Q (!b) H1) : tNot c σ H Q := h
theorem g_and {Q : Bool → Hp → Prop} (h : c σ H fun b H1 => if b = true then d σ H1 Q else Q false H1) : tAnd c d σ H Q := h
theorem g_or {Q : Bool → Hp → Prop} (h : c σ H fun b H1 => if b = true then Q true H1 else d σ H1 Q) : tOr c d σ H Q := h
theorem g_nil {Q : List V → Hp → Prop} (h : Q [] H) : tNil σ H Q := h
theorem g_cons {tr : TA} {Q : List V → Hp → Prop} (h : te σ H fun x H1 => tr σ H1 fun xs H2 => Q (x :: xs) H2) : tCons te tr σ H Q := h
theorem g_cb {r : List V → Hp → VK → Prop} {tr : TA} (h : tr σ H fun vs H1 => r vs H1 Q) : tCB r tr σ H Q := h
theorem g_call {sp : Sp} {dvs : List V} {E : XK} {tr : TA} (h : tr σ H fun vs H1 => sp (vs ++ dvs) H1 Q E) : tCall sp dvs E tr σ H Q := h
theorem g_ixL {z : Int} (hs : SqL K H p xs) (ha : atI xs z = some v) (h : Q v H) : rIxL K (.ref p) (.int z) H Q := ⟨p, xs, z, v, rfl, rfl, hs, ha, h⟩
theorem g_setL {z : Int} {Q : Hp → Prop} {n : Nat} {ys : List V} (hs : H p = some (.lst xs)) (ha : ixN xs.length z = some n) (e : xs.set n v = ys) (h : Q (upd H p (.lst ys))) : rSetL (.ref p) (.int z) v H Q := ⟨p, xs, z, n, rfl, rfl, hs, ha, by rw [e]; exact h⟩
theorem g_setL2 {z : Int} {Q : Hp → Prop} {n : Nat} {ys : List V} (ha : ixN xs.length z = some n) (e : xs.set n v = ys) (h : Q (upd H p (.lst ys))) : rSetL (.ref p) (.int z) v (upd H p (.lst xs)) Q :=
  ⟨p, xs, z, n, rfl, rfl, upd_same, ha, by rw [upd_upd, e]; exact h⟩
theorem g_int {Q : Int → Prop} {R : Prop} (h : Q i) : (∃ z, [V.int i] = [.int z] ∧ Q z) ∨ R := .inl ⟨i, rfl, h⟩
theorem g_lst {tr : TA} (h : tr σ H fun xs H1 => xs.length ≤ sizeLine ∧ ∀ p, H1 p = none → Q (.ref p) (upd H1 p (.lst xs))) : tLst tr σ H Q := h
theorem g_tup {tr : TA} (h : tr σ H fun xs H1 => xs.length ≤ sizeLine ∧ ∀ p, H1 p = none → Q (.ref p) (upd H1 p (.tup xs))) : tTup tr σ H Q := h
theorem g_lenS {Q : List V → Prop} (hs : SqL K H p xs) (h : Q xs) : ∃ p' ys, [V.ref p] = [.ref p'] ∧ (SqL K H p' ys ∨ SqT K H p' ys) ∧ Q ys := ⟨p, xs, rfl, .inl hs, h⟩
theorem g_ite {A B : Prop} {P : Prop} [Decidable P] (h1 : P → A) (h2 : ¬ P → B) : if decide P = true then A else B := by
  by_cases h : P
  · rw [if_pos (decide_eq_true h)]; exact h1 h
  · rw [if_neg (fun e => h (of_decide_eq_true e))]; exact h2 h
theorem g_iteN {A B : Prop} {P : Prop} [Decidable P] (h1 : ¬ P → A) (h2 : P → B) : if (!decide P) = true then A else B := by
  by_cases h : P
  · rw [decide_eq_true h]; exact iteF (h2 h)
  · rw [decide_eq_false h]; exact iteT (h1 h)
theorem g_iteI {A B : Prop} (h1 : i = j → A) (h2 : i ≠ j → B) : if decide (V.int i = V.int j) = true then A else B :=
  g_ite (fun e => h1 (V.int.inj e)) (fun n => h2 fun e => n (congrArg V.int e))
theorem g_iteNI {A B : Prop} (h1 : i ≠ j → A) (h2 : i = j → B) : if (!decide (V.int i = V.int j)) = true then A else B :=
  g_iteN (fun n => h1 fun e => n (congrArg V.int e)) (fun e => h2 (V.int.inj e))
theorem g_iteB {A B : Prop} (h1 : b = true → A) (h2 : b = false → B) : if b = true then A else B := by
  cases b with
  | true => exact iteT (h1 rfl)
  | false => exact iteF (h2 rfl)
end
/-! ### loops and comprehensions -/
section
variable {K : PySem.W.Frag} {σ : L2.St} {H : Hp} {Q : VK} {D : Ends} {ta tb te tl : TE} {tbd : TS} {wi : TI} {g : TG} {tt : TT} {vs : List Nat} {p : Addr} {xs : List V} {z : Int} {k : Nat} {v : V}
def tForK (g : TG) (tb : TS) (D : Ends) (σ : L2.St) (J : It) (H1 : Hp) : Prop := ∃ W : Nat → Nat → L2.St → Hp → Prop, (∃ m, W 0 m σ H1) ∧ ∀ i m σ H, W i m σ H →
  (J.stop i H ∧ D.nx σ H) ∨ (J.go i H ∧ ∃ N : L2.St → Hp → Prop, (∀ σ' H', N σ' H' → ∃ m', m' < m ∧ W (i + 1) m' σ' H') ∧ ∀ x H', J.yld i H x H' → g x σ H' fun σ2 H2 => tb { D with nx := N, ct := N, bk := D.nx } σ2 H2)
def tLcK (g : TG) (tt : TT) (te : TE) (vs : List Nat) (σ : L2.St) (Q : VK) (J : It) (H1 : Hp) : Prop := ∀ D, H1 D = none → ∃ W : Nat → Nat → Hp → Prop, (∃ m, W 0 m (upd H1 D (.lst []))) ∧ ∀ i m H, W i m H →
  (J.stop i H ∧ Q (.ref D) H) ∨ (J.go i H ∧ ∃ Nx : Hp → Prop, (∀ H', Nx H' → ∃ m', m' < m ∧ W (i + 1) m' H') ∧ ∀ x H', J.yld i H x H' → g x (wipe σ vs) H' fun σ2 H2 => wipe σ2 vs = wipe σ vs ∧ tt σ2 H2 fun b H3 =>
    if b = true then te σ2 H3 fun y H4 => ∃ acc, H4 D = some (.lst acc) ∧ acc.length < sizeLine ∧ Nx (upd H4 D (.lst (acc ++ [y]))) else Nx H3)
theorem g_nn {R : Prop} (h : R) : V.non = V.non ∧ R := ⟨rfl, h⟩
theorem g_yes {Q : Bool → Hp → Prop} (h : Q true H) : tYes σ H Q := h
theorem g_for (h : wi σ H (tForK g tbd D σ)) : tFor wi g tbd D σ H := h
theorem g_lc (h : wi σ H (tLcK g tt te vs σ Q)) : tLc wi g tt te vs σ H Q := h
theorem g_iList {R : It → Hp → Prop} (h : tl σ H fun x H1 => ∃ a, x = .ref a ∧ (∃ xs, SqL K H1 a xs) ∧ R (Itl K a) H1) : iList K tl σ H R := h
theorem g_iRng1 {tr : TA} {R : It → Hp → Prop} (h : tr σ H fun vs H1 => ∃ j : Int, vs = [.int j] ∧ -(2 ^ 62) ≤ j ∧ j < 2 ^ 62 ∧ R (Itr 0 j.toNat) H1) : iRng1 tr σ H R := h
theorem g_iRng2 {tr : TA} {R : It → Hp → Prop} (h : tr σ H fun vs H1 => ∃ i j : Int, vs = [.int i, .int j] ∧ (-(2 ^ 62) ≤ i ∧ i < 2 ^ 62 ∧ -(2 ^ 62) ≤ j ∧ j < 2 ^ 62) ∧ R (Itr i (j - i).toNat) H1) : iRng2 tr σ H R := h
theorem g_sl {r : V → Option Int → Option Int → Hp → VK → Prop} {tlo thi : TO} (h : te σ H fun x H1 => tlo σ H1 fun l H2 => thi σ H2 fun u H3 => r x l u H3 Q) : tSl r te tlo thi σ H Q := h
theorem g_noPart {Q : Option Int → Hp → Prop} (h : Q none H) : tNoPart σ H Q := h
theorem g_part {Q : Option Int → Hp → Prop} (h : te σ H fun x H1 => ∃ i, x = .int i ∧ Q (some i) H1) : tPart te σ H Q := h
theorem g_ex1 {Q : Int → Prop} (h : Q z) : ∃ i, V.int z = .int i ∧ Q i := ⟨z, rfl, h⟩
theorem g_ixS {x : Str} {c : Nat} (hl : x.length ≤ sizeLine) (ha : atI x.cps.toList z = some c) (h : Q (.str ⟨#[c]⟩) H) : rIxS (.str x) (.int z) H Q := ⟨x, z, c, rfl, rfl, hl, ha, h⟩
theorem g_bm {T : String} {r : V → List V → Hp → VK → Prop} {to : TE} {tr : TA} (h : to σ H fun x H1 => tyV K T x H1 ∧ tr σ H1 fun xs H2 => r x xs H2 Q) : tBM K T r to tr σ H Q := h
theorem g_tyL {R : Prop} (hs : H p = some (.lst xs)) (h : R) : tyV K "list" (.ref p) H ∧ R := ⟨.inl ⟨rfl, _, SqL.of hs⟩, h⟩
theorem g_app (hs : H p = some (.lst xs)) (hz : xs.length < sizeLine) (h : Q .non (upd H p (.lst (xs ++ [v])))) : rAppend (.ref p) [v] H Q := ⟨p, xs, v, rfl, rfl, hs, hz, h⟩
/-- for x in a list -/
theorem f_list (hS : SqL K H p xs) (Pv : Nat → L2.St → Hp → Prop) (h0 : Pv 0 σ H) (hl : ∀ i σ H, i ≤ xs.length → Pv i σ H → SqL K H p xs)
    (hs : ∀ i x σ H, xs[i]? = some x → Pv i σ H → g x σ H fun σ2 H2 => tbd { D with nx := Pv (i + 1), ct := Pv (i + 1), bk := D.nx } σ2 H2) (hd : ∀ σ H, Pv xs.length σ H → D.nx σ H) :
    ∃ a, V.ref p = .ref a ∧ (∃ xs, SqL K H a xs) ∧ tForK g tbd D σ (Itl K a) H := ⟨p, rfl, ⟨_, hS⟩, for_list Pv h0 hl hs hd⟩
/-- for k in range(z) -/
theorem f_rng1 (h1 : -(2 ^ 62) ≤ z) (h2 : z < 2 ^ 62) (Pv : Nat → L2.St → Hp → Prop) (h0 : Pv 0 σ H) (hs : ∀ i σ H, i < z.toNat → Pv i σ H → g (.int i) σ H fun σ2 H2 => tbd { D with nx := Pv (i + 1), ct := Pv (i + 1), bk := D.nx } σ2 H2) (hd : ∀ σ H, Pv z.toNat σ H → D.nx σ H) :
    ∃ j : Int, [V.int z] = [.int j] ∧ -(2 ^ 62) ≤ j ∧ j < 2 ^ 62 ∧ tForK g tbd D σ (Itr 0 j.toNat) H := ⟨z, rfl, h1, h2, for_range Pv h0 (fun i σ H hi p => by rw [Int.zero_add]; exact hs i σ H hi p) hd⟩
/-- a comprehension over a list -/
theorem f_lcL (hS : SqL K H p xs) (Pv : Addr → Nat → Hp → Prop) (h0 : ∀ D, H D = none → Pv D 0 (upd H D (.lst []))) (hl : ∀ D i H', H D = none → i ≤ xs.length → Pv D i H' → SqL K H' p xs)
    (hs : ∀ D i x H', H D = none → xs[i]? = some x → Pv D i H' → g x (wipe σ vs) H' fun σ2 H2 => wipe σ2 vs = wipe σ vs ∧ tt σ2 H2 fun b H3 => if b = true then te σ2 H3 fun y H4 => ∃ acc, H4 D = some (.lst acc) ∧ acc.length < sizeLine ∧ Pv D (i + 1) (upd H4 D (.lst (acc ++ [y]))) else Pv D (i + 1) H3)
    (hd : ∀ D H', H D = none → Pv D xs.length H' → Q (.ref D) H') : ∃ a, V.ref p = .ref a ∧ (∃ xs, SqL K H a xs) ∧ tLcK g tt te vs σ Q (Itl K a) H :=
  ⟨p, rfl, ⟨_, hS⟩, fun D nD => lc_list (xs := xs) (Pv D) (h0 D nD) (fun i H' hi q => hl D i H' nD hi q) (fun i x H' hx q => hs D i x H' nD hx q) fun H' q => hd D H' nD q⟩
/-- .. over range(z) -/
theorem f_lcR (h1 : -(2 ^ 62) ≤ z) (h2 : z < 2 ^ 62) (Pv : Addr → Nat → Hp → Prop) (h0 : ∀ D, H D = none → Pv D 0 (upd H D (.lst [])))
    (hs : ∀ D i H', H D = none → i < z.toNat → Pv D i H' → g (.int i) (wipe σ vs) H' fun σ2 H2 => wipe σ2 vs = wipe σ vs ∧ tt σ2 H2 fun b H3 => if b = true then te σ2 H3 fun y H4 => ∃ acc, H4 D = some (.lst acc) ∧ acc.length < sizeLine ∧ Pv D (i + 1) (upd H4 D (.lst (acc ++ [y]))) else Pv D (i + 1) H3)
    (hd : ∀ D H', H D = none → Pv D z.toNat H' → Q (.ref D) H') : ∃ j : Int, [V.int z] = [.int j] ∧ -(2 ^ 62) ≤ j ∧ j < 2 ^ 62 ∧ tLcK g tt te vs σ Q (Itr 0 j.toNat) H :=
  ⟨z, rfl, h1, h2, fun D nD => lc_range (Pv D) (h0 D nD) (fun i H' hi q => by rw [Int.zero_add]; exact hs D i H' nD hi q) fun H' q => hd D H' nD q⟩
/-- [f x for x in xs], nothing else made -/
theorem f_lcMap {j : Nat} (hS : SqL K H p xs) (hz : xs.length ≤ 100000) (f : V → V) (hw : ∀ x, wipe ((wipe σ vs).set j (some x)) vs = wipe σ vs)
    (he : ∀ (i : Nat) x H' (Q' : VK), xs[i]? = some x → Same H H' → Q' (f x) H' → te ((wipe σ vs).set j (some x)) H' Q') (hd : ∀ D, H D = none → Q (.ref D) (upd H D (.lst (xs.map f)))) :
    ∃ a, V.ref p = .ref a ∧ (∃ xs, SqL K H a xs) ∧ tLcK (gName j) tYes te vs σ Q (Itl K a) H :=
  f_lcL hS (fun D i H' => H' = upd H D (.lst ((xs.take i).map f))) (fun D _ => rfl) (fun D i H' nD _ e => by rw [e]; exact (same_new nD).seq hS)
    (fun D i x H' nD hx e => ⟨hw x, (by
      suffices hh : te ((wipe σ vs).set j (some x)) H' (fun y H4 => ∃ acc, H4 D = some (.lst acc) ∧ acc.length < sizeLine ∧ upd H4 D (.lst (acc ++ [y])) = upd H D (.lst ((xs.take (i + 1)).map f))) by exact hh
      refine he i x H' _ hx (by rw [e]; exact same_new nD) ?_
      have hi := (List.getElem?_eq_some_iff.mp hx).1
      subst e
      refine ⟨_, upd_same, ?_, ?_⟩
      · rw [List.length_map, List.length_take]; exact Nat.lt_of_le_of_lt (Nat.min_le_right _ _) (Nat.lt_of_le_of_lt hz (by decide))
      · rw [upd_upd, List.take_succ, hx]; simp)⟩) (fun D H' nD e => by rw [e, List.take_length]; exact hd D nD)
/-- [f i for i in range(z)], nothing else made -/
theorem f_lcMapR {j : Nat} (h1 : -(2 ^ 62) ≤ z) (h2 : z ≤ 100000) (f : Nat → V) (hw : ∀ x, wipe ((wipe σ vs).set j (some x)) vs = wipe σ vs)
    (he : ∀ (i : Nat) H' (Q' : VK), i < z.toNat → Same H H' → Q' (f i) H' → te ((wipe σ vs).set j (some (.int i))) H' Q') (hd : ∀ D, H D = none → Q (.ref D) (upd H D (.lst ((List.range z.toNat).map f)))) :
    ∃ j' : Int, [V.int z] = [.int j'] ∧ -(2 ^ 62) ≤ j' ∧ j' < 2 ^ 62 ∧ tLcK (gName j) tYes te vs σ Q (Itr 0 j'.toNat) H :=
  f_lcR h1 (by omega) (fun D i H' => H' = upd H D (.lst ((List.range i).map f))) (fun D _ => rfl)
    (fun D i H' nD hi e => ⟨hw _, (by
      suffices hh : te ((wipe σ vs).set j (some (.int i))) H' (fun y H4 => ∃ acc, H4 D = some (.lst acc) ∧ acc.length < sizeLine ∧ upd H4 D (.lst (acc ++ [y])) = upd H D (.lst ((List.range (i + 1)).map f))) by exact hh
      refine he i H' _ hi (by rw [e]; exact same_new nD) ?_
      subst e
      refine ⟨_, upd_same, ?_, ?_⟩
      · rw [List.length_map, List.length_range]; exact Nat.lt_of_lt_of_le (m := 100000) (by omega) (by decide)
      · rw [upd_upd, List.range_succ]; simp)⟩) (fun D H' nD e => by rw [e]; exact hd D nD)
end
theorem cut_to (xs : List V) (k : Nat) : cutV xs none (some (k : Int)) = xs.take k := by
  unfold cutV
  rw [show HT.sIx xs.length xs.length (some (k : Int)) = min k xs.length from HT.sIx_nat xs.length xs.length k, HT.sIx_none, List.drop_zero, Nat.sub_zero]
  by_cases h : k ≤ xs.length
  · rw [Nat.min_eq_left h]
  · rw [Nat.min_eq_right (by omega), List.take_length, List.take_of_length_le (by omega)]
theorem cut_from (xs : List V) (k : Nat) : cutV xs (some (k : Int)) none = xs.drop k := by
  unfold cutV
  rw [show HT.sIx xs.length 0 (some (k : Int)) = min k xs.length from HT.sIx_nat xs.length 0 k, HT.sIx_none]
  by_cases h : k ≤ xs.length
  · rw [Nat.min_eq_left h, List.take_of_length_le (by rw [List.length_drop] <;> omega)]
  · rw [Nat.min_eq_right (by omega), List.drop_of_length_le (Nat.le_refl _), List.drop_of_length_le (by omega), List.take_nil]
theorem g_slL {K : PySem.W.Frag} {H : Hp} {Q : VK} {p : Addr} {xs ys : List V} {lo hi : Option Int} (hS : SqL K H p xs) (e : cutV xs lo hi = ys) (h : ∀ q, H q = none → Q (.ref q) (upd H q (.lst ys))) : rSlL K (.ref p) lo hi H Q := ⟨p, xs, rfl, hS, by rw [e]; exact h⟩
theorem map_at {ns : List Int} {i : Nat} {x : V} (h : (ns.map V.int)[i]? = some x) : ∃ n, ns[i]? = some n ∧ x = .int n := by
  rw [List.getElem?_map] at h
  cases e : ns[i]? with
  | none => rw [e] at h; cases h
  | some n => rw [e] at h; exact ⟨n, rfl, (Option.some.inj h).symm⟩
theorem map_atS {ns : List Str} {i : Nat} {x : V} (h : (ns.map V.str)[i]? = some x) : ∃ n, ns[i]? = some n ∧ x = .str n := by
  rw [List.getElem?_map] at h
  cases e : ns[i]? with
  | none => rw [e] at h; cases h
  | some n => rw [e] at h; exact ⟨n, rfl, (Option.some.inj h).symm⟩
theorem lt_at {α : Type} {l : List α} {i : Nat} {x : α} (h : l[i]? = some x) : i < l.length := (List.getElem?_eq_some_iff.mp h).1
theorem sz_lt {n : Nat} (h : n < 100000) : n < sizeLine := Nat.lt_of_lt_of_le h (by decide)
theorem sz_le {n : Nat} (h : n ≤ 100000) : n ≤ sizeLine := Nat.le_trans h (by decide)
/-! ### data, texts -/
theorem len_cat (x y : Str) : (x ++ y).length = x.length + y.length := by rw [TL.len_tl, TL.tl_append, List.length_append, ← TL.len_tl, ← TL.len_tl]
theorem strOk_of {x : Str} (h : ∀ c ∈ x.cps.toList, c < 1114112) : PyData.strOk x = true := by
  unfold PyData.strOk; rw [← Array.all_toList, List.all_eq_true]; exact fun c hc => decide_eq_true (h c hc)
theorem strOk_mem {x : Str} (h : PyData.strOk x = true) : ∀ c ∈ x.cps.toList, c < 1114112 := by
  unfold PyData.strOk at h; rw [← Array.all_toList, List.all_eq_true] at h; exact fun c hc => of_decide_eq_true (h c hc)
theorem strOk_cat {x y : Str} (hx : PyData.strOk x = true) (hy : PyData.strOk y = true) : PyData.strOk (x ++ y) = true := strOk_of fun c hc => by
  have e : (x ++ y).cps.toList = x.cps.toList ++ y.cps.toList := TL.tl_append x y
  rw [e] at hc
  rcases List.mem_append.mp hc with h | h
  · exact strOk_mem hx c h
  · exact strOk_mem hy c h
theorem strOk_sign {x : Str} {c : Nat} (hx : PyData.strOk x = true) (h : c ∈ x.cps.toList) : PyData.strOk (⟨#[c]⟩ : Str) = true := strOk_of fun d hd => by
  have : d = c := by simpa using hd
  subst this; exact strOk_mem hx _ h
theorem shaped_list {ds : List PyData} (h1 : PyData.canLayAll0 ds = true) (h2 : PyData.depthAll ds ≤ 60) : SeqAt.shaped (.list ds) = true := by
  unfold SeqAt.shaped; rw [Bool.and_eq_true]
  exact ⟨by rw [PyData.canLay0]; exact h1, decide_eq_true (by rw [PyData.depth]; omega)⟩
theorem dpAll_strs {K : PySem.W.Frag} {H : Hp} : ∀ l : List Str, DpAll K H (l.map V.str) (l.map PyData.str)
  | [] => .nil
  | x :: r => .cons (.str x) (dpAll_strs r)
theorem lay_strs : ∀ l : List Str, (∀ z ∈ l, PyData.strOk z = true) → PyData.canLayAll0 (l.map PyData.str) = true
  | [], _ => rfl
  | x :: r, h => by
    rw [List.map_cons, PyData.canLayAll0, lay_strs r fun z hz => h z (List.mem_cons_of_mem _ hz), PyData.canLay0, h x List.mem_cons_self]; rfl
theorem depth_strs : ∀ l : List Str, PyData.depthAll (l.map PyData.str) = 0
  | [] => rfl
  | x :: r => by simp [PyData.depthAll, PyData.depth, depth_strs r]
theorem shaped_strs {l : List Str} (h : ∀ z ∈ l, PyData.strOk z = true) : SeqAt.shaped (.list (l.map PyData.str)) = true := shaped_list (lay_strs l h) (by rw [depth_strs]; decide)
theorem eqv_same {d : PyData} (h : SeqAt.shaped d = true) : PyData.eqv d d = true := SeqAt.eqv_refl d (SeqAt.canLay_of_shaped h)
theorem at_z {α : Type} {xs : List α} {z : Int} {j : Nat} {v : α} (e : z = (j : Int)) (h : xs[j]? = some v) : atI xs z = some v := by
  rw [e]; exact atI_nat h
section
variable {K : PySem.W.Frag} {σ : L2.St} {H : Hp} {Q : VK} {te to : TE}
theorem g_two {Q : Int → Int → Prop} {i j : Int} (h : Q i j) : ∃ a b, [V.int i, V.int j] = [.int a, .int b] ∧ Q a b := ⟨i, j, rfl, h⟩
theorem g_lenStr {Q : Str → Prop} {x : Str} (hl : x.length ≤ sizeLine) (h : Q x) : ∃ y, [V.str x] = [.str y] ∧ y.length ≤ sizeLine ∧ Q y := ⟨x, rfl, hl, h⟩
theorem g_m1 {r : V → List V → Hp → VK → Prop} (h : to σ H fun x H1 => (∃ a, x = .str a) ∧ te σ H1 fun y H2 => r x [y] H2 Q) : tM1 r to te σ H Q := h
theorem g_isS {x : Str} {R : Prop} (h : R) : (∃ a, V.str x = .str a) ∧ R := ⟨⟨x, rfl⟩, h⟩
theorem g_addS {x y : Str} {Q : Str → Str → Prop} (hz : x.length + y.length ≤ sizeLine) (h : Q x y) : ∃ i j, V.str x = .str i ∧ V.str y = .str j ∧ i.length + j.length ≤ sizeLine ∧ Q i j := ⟨x, y, rfl, rfl, hz, h⟩
theorem g_mulS {x : Str} {n : Int} {Q : Str → Int → Prop} (h1 : x.length ≤ 16) (h2 : n ≤ 1048576) (h3 : -(2 ^ 63 : Int) ≤ n) (h : Q x n) : ∃ z m, V.str x = .str z ∧ V.int n = .int m ∧ z.length ≤ 16 ∧ m ≤ 1048576 ∧ -(2 ^ 63 : Int) ≤ m ∧ Q z m := ⟨x, n, rfl, rfl, h1, h2, h3, h⟩
theorem g_join {x : Str} {p : Addr} {ys : List Str} {Q : Str → List Str → Prop} (hS : SqL K H p (ys.map V.str)) (hz : (ys.map (·.length)).sum + ys.length * x.length ≤ 16777216) (h : Q x ys) :
    ∃ a p', ∃ zs : List Str, V.str x = .str a ∧ [V.ref p] = [.ref p'] ∧ (SqL K H p' (zs.map V.str) ∨ SqT K H p' (zs.map V.str)) ∧ (zs.map (·.length)).sum + zs.length * a.length ≤ 16777216 ∧ Q a zs := ⟨x, p, ys, rfl, rfl, .inl hS, hz, h⟩
end
theorem map_atG {α : Type} {f : α → V} {l : List α} {i : Nat} {x : V} (h : (l.map f)[i]? = some x) : ∃ a, l[i]? = some a ∧ x = f a := by
  rw [List.getElem?_map] at h
  cases e : l[i]? with
  | none => rw [e] at h; cases h
  | some n => rw [e] at h; exact ⟨n, rfl, (Option.some.inj h).symm⟩
theorem foldl_cps (c : Array Nat) : ∀ (k : Nat) (acc : Array Nat), ((List.replicate k c).foldl (· ++ ·) acc).toList = acc.toList ++ (List.replicate k c.toList).flatten
  | 0, acc => by simp
  | k + 1, acc => by rw [List.replicate_succ, List.foldl_cons, foldl_cps c k, List.replicate_succ]; simp
theorem flat_one (a : Nat) : ∀ k : Nat, (List.replicate k [a]).flatten = List.replicate k a
  | 0 => rfl
  | k + 1 => by rw [List.replicate_succ, List.flatten_cons, flat_one a k, List.replicate_succ]; rfl
/-- one sign, n times -/
theorem mul_one_sign (c : Nat) (n : Int) : Txt.mul (⟨#[c]⟩ : Str) n = ⟨(List.replicate n.toNat c).toArray⟩ := by
  refine TL.ext_tl ?_
  show TL.tl _ = List.replicate n.toNat c
  unfold Txt.mul
  by_cases h1 : n < 1
  · rw [if_pos h1, show n.toNat = 0 by omega]; rfl
  · rw [if_neg h1]
    split
    · rename_i h
      have : n = 1 := by
        rcases Bool.or_eq_true_iff.mp h with h | h
        · exact eq_of_beq h
        · cases h
      subst this; rfl
    · show ((List.replicate n.toNat #[c]).foldl (· ++ ·) #[]).toList = _
      rw [foldl_cps]
      show [] ++ (List.replicate n.toNat [c]).flatten = _
      rw [flat_one]; rfl
/-! ### [f x for row in rows for x in row] -/
section
variable {K : PySem.W.Frag} {σ : L2.St} {H : Hp} {Q : VK} {te : TE} {wi wi1 : TI} {g g1 : TG} {tt tt1 : TT} {vs vs1 : List Nat} {p : Addr}
def tLc2K (g : TG) (tt : TT) (wi1 : TI) (g1 : TG) (tt1 : TT) (te : TE) (vs vs1 : List Nat) (σ : L2.St) (Q : VK) (J : It) (H1 : Hp) : Prop := ∀ D, H1 D = none → ∃ W : Nat → Nat → Hp → Prop, (∃ m, W 0 m (upd H1 D (.lst []))) ∧ ∀ i m H, W i m H →
  (J.stop i H ∧ Q (.ref D) H) ∨ (J.go i H ∧ ∃ Nx : Hp → Prop, (∀ H', Nx H' → ∃ m', m' < m ∧ W (i + 1) m' H') ∧ ∀ x H', J.yld i H x H' → g x (wipe σ vs) H' fun σ2 H2 => wipe σ2 vs = wipe σ vs ∧ tt σ2 H2 fun b H3 =>
    if b = true then wi1 σ2 H3 fun J1 H4 => ∃ W1 : Nat → Nat → Hp → Prop, (∃ m, W1 0 m H4) ∧ ∀ j k H, W1 j k H →
      (J1.stop j H ∧ Nx H) ∨ (J1.go j H ∧ ∃ Nx1 : Hp → Prop, (∀ H', Nx1 H' → ∃ k', k' < k ∧ W1 (j + 1) k' H') ∧ ∀ x H', J1.yld j H x H' → g1 x (wipe σ2 vs1) H' fun σ3 H5 => wipe σ3 vs1 = wipe σ2 vs1 ∧ tt1 σ3 H5 fun b H6 =>
        if b = true then te σ3 H6 fun y H7 => ∃ acc, H7 D = some (.lst acc) ∧ acc.length < sizeLine ∧ Nx1 (upd H7 D (.lst (acc ++ [y]))) else Nx1 H6)
    else Nx H3)
theorem g_lc2 (h : wi σ H (tLc2K g tt wi1 g1 tt1 te vs vs1 σ Q)) : tLc2 wi g tt wi1 g1 tt1 te vs vs1 σ H Q := h
theorem f_lc2Map {j1 j2 : Nat} {ps : List Addr} (row : Addr → List V) (hS : SqL K H p (ps.map V.ref)) (hr : ∀ a ∈ ps, SqL K H a (row a)) (hz : ((ps.map row).flatten).length ≤ 100000) (f : V → V)
    (hw : ∀ x, wipe ((wipe σ vs).set j1 (some x)) vs = wipe σ vs) (hj : ∀ x, ((wipe σ vs).set j1 (some x))[j1]? = some (some x)) (hw1 : ∀ x y, wipe ((wipe ((wipe σ vs).set j1 (some x)) vs1).set j2 (some y)) vs1 = wipe ((wipe σ vs).set j1 (some x)) vs1)
    (he : ∀ a x H' (Q' : VK), a ∈ ps → x ∈ row a → Same H H' → Q' (f x) H' → te ((wipe ((wipe σ vs).set j1 (some (.ref a))) vs1).set j2 (some x)) H' Q') (hd : ∀ D, H D = none → Q (.ref D) (upd H D (.lst (((ps.map row).flatten).map f)))) :
    ∃ a, V.ref p = .ref a ∧ (∃ xs, SqL K H a xs) ∧ tLc2K (gName j1) tYes (iList K (tVar j1)) (gName j2) tYes te vs vs1 σ Q (Itl K a) H := by
  refine ⟨p, rfl, ⟨_, hS⟩, fun D nD => ⟨fun i m H' => m = ps.length - i ∧ i ≤ ps.length ∧ H' = upd H D (.lst ((((ps.take i).map row).flatten).map f)), ⟨ps.length, rfl, Nat.zero_le _, rfl⟩, ?_⟩⟩
  rintro i m H' ⟨rfl, hi, rfl⟩
  have hS' : SqL K (upd H D (.lst ((((ps.take i).map row).flatten).map f))) p (ps.map V.ref) := (same_new nD).seq hS
  by_cases hlt : i < ps.length
  · have ei : ps[i]? = some ps[i] := List.getElem?_eq_getElem hlt
    generalize ps[i] = a at ei
    have ex : (ps.map V.ref)[i]? = some (.ref a) := by rw [List.getElem?_map, ei]; rfl
    have ha := List.mem_of_getElem? ei
    refine .inr ⟨⟨_, _, hS', ex⟩, fun H2 => H2 = upd H D (.lst ((((ps.take (i + 1)).map row).flatten).map f)), fun H2 e => ⟨ps.length - (i + 1), by omega, rfl, hlt, e⟩, fun x H2 hy => ?_⟩
    obtain ⟨rfl, fx⟩ := hy
    have : x = .ref a := Option.some.inj ((fx _ hS').symm.trans ex)
    subst this
    refine ⟨hw _, ?_⟩
    suffices hh : iList K (tVar j1) ((wipe σ vs).set j1 (some (.ref a))) (upd H D (.lst ((((ps.take i).map row).flatten).map f))) (fun J1 H4 => ∃ W1 : Nat → Nat → Hp → Prop, (∃ m, W1 0 m H4) ∧ ∀ j k H3, W1 j k H3 →
      (J1.stop j H3 ∧ H3 = upd H D (.lst ((((ps.take (i + 1)).map row).flatten).map f))) ∨ (J1.go j H3 ∧ ∃ Nx1 : Hp → Prop, (∀ H', Nx1 H' → ∃ k', k' < k ∧ W1 (j + 1) k' H') ∧ ∀ x H', J1.yld j H3 x H' → gName j2 x (wipe ((wipe σ vs).set j1 (some (.ref a))) vs1) H' fun σ3 H5 => wipe σ3 vs1 = wipe ((wipe σ vs).set j1 (some (.ref a))) vs1 ∧ tYes σ3 H5 fun b H6 =>
        if b = true then te σ3 H6 fun y H7 => ∃ acc, H7 D = some (.lst acc) ∧ acc.length < sizeLine ∧ Nx1 (upd H7 D (.lst (acc ++ [y]))) else Nx1 H6)) by exact hh
    have hra : SqL K H a (row a) := hr a ha
    refine ⟨.ref a, hj _, a, rfl, ⟨_, (same_new nD).seq hra⟩, fun j k H3 => k = (row a).length - j ∧ j ≤ (row a).length ∧ H3 = upd H D (.lst ((((ps.take i).map row).flatten ++ (row a).take j).map f)), ⟨(row a).length, rfl, Nat.zero_le _, by rw [List.take_zero, List.append_nil]⟩, ?_⟩
    rintro j k H3 ⟨rfl, hjl, rfl⟩
    have hra' : SqL K (upd H D (.lst ((((ps.take i).map row).flatten ++ (row a).take j).map f))) a (row a) := (same_new nD).seq hra
    have etk : ((ps.take (i + 1)).map row).flatten = ((ps.take i).map row).flatten ++ row a := by rw [List.take_succ, ei]; simp
    by_cases hj2 : j < (row a).length
    · have ej : (row a)[j]? = some (row a)[j] := List.getElem?_eq_getElem hj2
      generalize (row a)[j] = y at ej
      refine .inr ⟨⟨_, _, hra', ej⟩, fun H4 => H4 = upd H D (.lst ((((ps.take i).map row).flatten ++ (row a).take (j + 1)).map f)), fun H4 e => ⟨(row a).length - (j + 1), by omega, rfl, hj2, e⟩, fun x H4 hy => ?_⟩
      obtain ⟨rfl, fy⟩ := hy
      have : x = y := Option.some.inj ((fy _ hra').symm.trans ej)
      subst this
      refine ⟨hw1 _ _, ?_⟩
      suffices hh : te ((wipe ((wipe σ vs).set j1 (some (.ref a))) vs1).set j2 (some x)) (upd H D (.lst ((((ps.take i).map row).flatten ++ (row a).take j).map f))) (fun y H7 => ∃ acc, H7 D = some (.lst acc) ∧ acc.length < sizeLine ∧ upd H7 D (.lst (acc ++ [y])) = upd H D (.lst ((((ps.take i).map row).flatten ++ (row a).take (j + 1)).map f))) by exact hh
      refine he a x _ _ ha (List.mem_of_getElem? ej) (same_new nD) ⟨_, upd_same, sz_lt ?_, ?_⟩
      · have h1 : (((ps.take i).map row).flatten ++ row a).length ≤ ((ps.map row).flatten).length := by
          rw [← etk]
          have : (ps.map row).flatten = ((ps.take (i + 1)).map row).flatten ++ ((ps.drop (i + 1)).map row).flatten := by rw [← List.flatten_append, ← List.map_append, List.take_append_drop]
          rw [this, List.length_append]; omega
        rw [List.length_append] at h1
        rw [List.length_map, List.length_append, List.length_take]; omega
      · rw [upd_upd, List.take_succ, ej, ← List.append_assoc]; simp
    · refine .inl ⟨⟨_, hra', by omega⟩, ?_⟩
      rw [etk, show j = (row a).length by omega, List.take_length]
  · refine .inl ⟨⟨_, hS', by rw [List.length_map]; omega⟩, ?_⟩
    rw [show i = ps.length by omega, List.take_length]
    exact hd D nD
end
section
variable {K : PySem.W.Frag} {σ : L2.St} {H : Hp} {Q : VK}
theorem g_ckw {r : List V → List V → Hp → VK → Prop} {tr tk : TA} (h : tr σ H fun vs H1 => tk σ H1 fun zs H2 => r vs zs H2 Q) : tCKw r tr tk σ H Q := h
theorem g_iZip {ta : TA} {R : It → Hp → Prop} (h : ta σ H fun vs H1 => ∃ a b xs ys, vs = [.ref a, .ref b] ∧ SqL K H1 a xs ∧ SqL K H1 b ys ∧ R (Itz K a b) H1) : iZip K ta σ H R := h
theorem g_pad {x : Str} {i : Int} {Q : Str → Int → Prop} (hp : PadOk i = true) (h : Q x i) : ∃ a j, V.str x = .str a ∧ [V.int i] = [.int j] ∧ PadOk j = true ∧ Q a j := ⟨x, i, rfl, rfl, hp, h⟩
theorem padOk_small {i : Int} (h0 : 0 ≤ i) (h : i ≤ 100000) : PadOk i = true := by
  have hz : i.toNat ≤ sizeLine := sz_le (by omega)
  unfold PadOk fitsSsize Builtin.Str.tooLong
  rw [Bool.and_eq_true]
  refine ⟨?_, ?_⟩
  · simp; omega
  · simp; omega
end
section
variable {K : PySem.W.Frag} {σ : L2.St} {H : Hp} {Q : VK} {ta tb : TE}
theorem g_andV (h : ta σ H fun x H1 => ∃ c, x = .bl c ∧ if c = true then tb σ H1 Q else Q (.bl false) H1) : tAndV ta tb σ H Q := h
theorem g_orV (h : ta σ H fun x H1 => ∃ c, x = .bl c ∧ if c = true then Q (.bl true) H1 else tb σ H1 Q) : tOrV ta tb σ H Q := h
theorem iteNT {A B : Prop} (h : B) : if (!true) = true then A else B := by simpa using h
theorem iteNF {A B : Prop} (h : A) : if (!false) = true then A else B := by simpa using h
theorem g_listOf {p : Addr} {xs : List V} {Q : List V → Prop} (hs : SqL K H p xs) (h : Q xs) : ∃ p' ys, [V.ref p] = [.ref p'] ∧ (SqL K H p' ys ∨ SqT K H p' ys) ∧ Q ys := ⟨p, xs, rfl, .inl hs, h⟩
/-- isinstance of a text, an int, a list .. -/
theorem g_isiB {x : V} {T U : String} {b : Bool} (ty : TyX K H x (.type T)) (e : kitB T U = some b) (h : Q (.bl b) H) : rIsi K [x, .ty U] H Q := ⟨x, .ty U, _, _, b, rfl, .ty U, ty, kit_ty e, h⟩
end
/-! ### while, break, texts, powers -/
section
variable {K : PySem.W.Frag} {σ : L2.St} {H : Hp} {Q : VK} {D : Ends} {ta tb te : TE} {c : TT} {tbd : TS}
theorem f_while (W : Nat → L2.St → Hp → Prop) (m0 : Nat) (h0 : W m0 σ H)
    (hs : ∀ m σ H, W m σ H → c σ H fun b H1 => if b = true then ∃ N : L2.St → Hp → Prop, (∀ σ' H', N σ' H' → ∃ m', m' < m ∧ W m' σ' H') ∧ tbd { D with nx := N, ct := N, bk := D.nx } σ H1 else D.nx σ H1) : tWhile c tbd D σ H :=
  ⟨W, ⟨m0, h0⟩, hs⟩
theorem g_turn {W : Nat → L2.St → Hp → Prop} {m : Nat} {r : VK} {bk : L2.St → Hp → Prop} (h : tbd { nx := fun σ' H' => ∃ m', m' < m ∧ W m' σ' H', rt := r, bk := bk, ct := fun σ' H' => ∃ m', m' < m ∧ W m' σ' H' } σ H) :
    ∃ N : L2.St → Hp → Prop, (∀ σ' H', N σ' H' → ∃ m', m' < m ∧ W m' σ' H') ∧ tbd { nx := N, rt := r, bk := bk, ct := N } σ H := ⟨_, fun _ _ h => h, h⟩
theorem g_aug {k : Nat} {x : V} {ti : TIp} (e : σ[k]? = some (some x)) (h : te σ H fun y H1 => ti x y H1 fun z H2 => D.nx (σ.set k (some z)) H2) : tAug k te ti D σ H := ⟨x, e, h⟩
theorem g_ipI {g : Int → Int → Int} {i j : Int} (h : Q (.int (g i j)) H) : ipI g (.int i) (.int j) H Q := ⟨i, j, rfl, rfl, h⟩
theorem g_brk (h : D.bk σ H) : tBreak D σ H := h
theorem g_cont (h : D.ct σ H) : tCont D σ H := h
def CPowW (i j : Int) : Prop := 0 ≤ j ∧ (Builtin.Int.intBits i : Int) * j ≤ 2 ^ 27
theorem op_powW {X : Cx} : OpR X (binaryOp .Pow) (rI CPowW fun i j => .int (i ^ j.toNat)) := opI fun _ _ _ _ _ _ _ hc q => PyProof.Rows.pow_int hc.1 hc.2 q
theorem g_slS {x : Str} {lo hi : Option Int} {y : Str} (hl : x.length ≤ sizeLine) (e : cutS x lo hi = y) (h : Q (.str y) H) : rSlS (.str x) lo hi H Q := ⟨x, rfl, hl, by rw [e]; exact h⟩
/-- a slice of a text, both ends within or beyond -/
theorem cutS_nat (l : List Nat) (a b : Nat) : cutS (⟨l.toArray⟩ : Str) (some (a : Int)) (some (b : Int)) = ⟨((l.drop a).take (b - a)).toArray⟩ := by
  unfold cutS
  have e : (⟨l.toArray⟩ : Str).length = l.length := by simp [Str.length]
  rw [e, show HT.sIx l.length 0 (some (a : Int)) = min a l.length from HT.sIx_nat l.length 0 a, show HT.sIx l.length l.length (some (b : Int)) = min b l.length from HT.sIx_nat l.length l.length b]
  refine congrArg (fun l : List Nat => (⟨l.toArray⟩ : Str)) ?_
  show (l.drop (min a l.length)).take _ = _
  by_cases ha : a ≤ l.length
  · rw [Nat.min_eq_left ha]
    by_cases hb : b ≤ l.length
    · rw [Nat.min_eq_left hb]
    · rw [Nat.min_eq_right (by omega), List.take_of_length_le (by rw [List.length_drop] <;> omega), List.take_of_length_le (by rw [List.length_drop]; omega)]
  · rw [Nat.min_eq_right (show l.length ≤ a by omega), List.drop_of_length_le (Nat.le_refl _), List.drop_of_length_le (show l.length ≤ a by omega), List.take_nil, List.take_nil]
theorem cutS_to (l : List Nat) (b : Nat) : cutS (⟨l.toArray⟩ : Str) none (some (b : Int)) = ⟨(l.take b).toArray⟩ := by
  unfold cutS
  have e : (⟨l.toArray⟩ : Str).length = l.length := by simp [Str.length]
  rw [e, HT.sIx_none, show HT.sIx l.length l.length (some (b : Int)) = min b l.length from HT.sIx_nat l.length l.length b]
  refine congrArg (fun l : List Nat => (⟨l.toArray⟩ : Str)) ?_
  show (l.drop 0).take _ = _
  rw [List.drop_zero, Nat.sub_zero]
  by_cases hb : b ≤ l.length
  · rw [Nat.min_eq_left hb]
  · rw [Nat.min_eq_right (by omega), List.take_length, List.take_of_length_le (by omega)]
theorem g_sign {a : Nat} {z : Str} {Q : Nat → Str → Prop} (h : Q a z) : ∃ (c : Nat) (y : Str), V.str (⟨#[a]⟩ : Str) = .str ⟨#[c]⟩ ∧ V.str z = .str y ∧ Q c y := ⟨a, z, rfl, rfl, h⟩
end
section
variable {K : PySem.W.Frag} {σ : L2.St} {H : Hp} {Q : VK} {p : Addr} {tt : TT} {vs : List Nat}
theorem filt_snoc {ns : List Int} {ok : Int → Bool} {i : Nat} {n : Int} (h : ns[i]? = some n) : ((ns.take (i + 1)).filter ok) = (ns.take i).filter ok ++ (if ok n = true then [n] else []) := by
  rw [List.take_succ, h, List.filter_append]
  cases e : ok n <;> simp [e]
/-- [x for x in ints if ..], a test that makes nothing -/
theorem f_lcFilt {j : Nat} {ns : List Int} (hS : SqL K H p (ns.map V.int)) (hz : ns.length ≤ 90000) (ok : Int → Bool) (hw : ∀ x, wipe ((wipe σ vs).set j (some x)) vs = wipe σ vs) (hj : ∀ x, ((wipe σ vs).set j (some x))[j]? = some (some x))
    (ht : ∀ (i : Nat) n H' (Q' : Bool → Hp → Prop), ns[i]? = some n → Same H H' → Q' (ok n) H' → tt ((wipe σ vs).set j (some (.int n))) H' Q') (hd : ∀ D, H D = none → Q (.ref D) (upd H D (.lst ((ns.filter ok).map V.int)))) :
    ∃ a, V.ref p = .ref a ∧ (∃ xs, SqL K H a xs) ∧ tLcK (gName j) tt (tVar j) vs σ Q (Itl K a) H :=
  f_lcL hS (fun D i H' => H' = upd H D (.lst (((ns.take i).filter ok).map V.int))) (fun D _ => rfl) (fun D i H' nD _ e => by rw [e]; exact (same_new nD).seq hS)
    (fun D i x H' nD hx e => by
      obtain ⟨n, hn, rfl⟩ := map_at hx
      refine ⟨hw _, ht i n H' _ hn (by rw [e]; exact same_new nD) ?_⟩
      have sn := filt_snoc (ok := ok) hn
      subst e
      cases ho : ok n with
      | true =>
        rw [ho] at sn
        refine iteT ⟨_, hj _, _, upd_same, sz_lt ?_, ?_⟩
        · rw [List.length_map]
          have h1 := List.length_filter_le ok (ns.take i)
          rw [List.length_take] at h1; omega
        · rw [upd_upd, sn, List.map_append]; rfl
      | false =>
        rw [ho] at sn
        refine iteF ?_
        show upd H D _ = upd H D _
        rw [sn]; simp)
    fun D H' nD e => by
      rw [e, List.length_map, List.take_length]
      exact hd D nD
theorem filt_range {m i : Nat} {ok : Nat → Bool} : (List.range (i + 1)).filter ok = (List.range i).filter ok ++ (if ok i = true then [i] else []) := by
  rw [List.range_succ, List.filter_append]
  cases e : ok i <;> simp [e]
/-- [k for k in range(m) if ..], a test that makes nothing -/
theorem f_lcFiltR {j : Nat} {z : Int} {m : Nat} (hm : z = m) (hz : m ≤ 90000) (ok : Nat → Bool) (hw : ∀ x, wipe ((wipe σ vs).set j (some x)) vs = wipe σ vs) (hj : ∀ x, ((wipe σ vs).set j (some x))[j]? = some (some x))
    (ht : ∀ (i : Nat) H' (Q' : Bool → Hp → Prop), i < m → Same H H' → Q' (ok i) H' → tt ((wipe σ vs).set j (some (.int (i : Int)))) H' Q') (hd : ∀ D, H D = none → Q (.ref D) (upd H D (.lst (((List.range m).filter ok).map fun k : Nat => V.int (k : Int))))) :
    ∃ j' : Int, [V.int z] = [.int j'] ∧ -(2 ^ 62) ≤ j' ∧ j' < 2 ^ 62 ∧ tLcK (gName j) tt (tVar j) vs σ Q (Itr 0 j'.toNat) H := by
  subst hm
  refine f_lcR (by omega) (by omega) (fun D i H' => H' = upd H D (.lst (((List.range i).filter ok).map fun k : Nat => V.int (k : Int)))) (fun D _ => rfl)
    (fun D i H' nD hi e => ?_) fun D H' nD e => ?_
  · have hi : i < m := by omega
    refine ⟨hw _, ht i H' _ hi (by rw [e]; exact same_new nD) ?_⟩
    have sn := filt_range (m := m) (i := i) (ok := ok)
    subst e
    cases ho : ok i with
    | true =>
      rw [ho] at sn
      refine iteT ⟨_, hj _, _, upd_same, sz_lt ?_, ?_⟩
      · rw [List.length_map]
        have h1 := List.length_filter_le ok (List.range i)
        rw [List.length_range] at h1; omega
      · rw [upd_upd, sn, List.map_append]; rfl
    | false =>
      rw [ho] at sn
      refine iteF ?_
      show upd H D _ = upd H D _
      rw [sn]; simp
  · rw [e, Int.toNat_natCast]
    exact hd D nD
end
section
variable {K : PySem.W.Frag} {H : Hp} {Q : VK} {p : Addr} {xs : List V} {v : V}
theorem g_ixT {z : Int} (hs : SqT K H p xs) (ha : atI xs z = some v) (h : Q v H) : rIxT K (.ref p) (.int z) H Q := ⟨p, xs, z, v, rfl, rfl, hs, ha, h⟩
theorem g_lenT {Q : List V → Prop} (hs : SqT K H p xs) (h : Q xs) : ∃ p' ys, [V.ref p] = [.ref p'] ∧ (SqL K H p' ys ∨ SqT K H p' ys) ∧ Q ys := ⟨p, xs, rfl, .inr hs, h⟩
theorem g_isiS {x : Str} {U : String} {b : Bool} (e : kitB "str" U = some b) (h : Q (.bl b) H) : rIsi K [.str x, .ty U] H Q := g_isiB (.base (.str _)) e h
theorem g_isiI {i : Int} {U : String} {b : Bool} (e : kitB "int" U = some b) (h : Q (.bl b) H) : rIsi K [.int i, .ty U] H Q := g_isiB (.base (.int _)) e h
end
theorem log_small {i : Int} (h0 : 0 ≤ i) (h : i ≤ 1000000) : i.natAbs.log2 < 1920 := by
  by_cases hz : i.natAbs = 0
  · rw [hz]; decide
  · exact Nat.lt_trans ((Nat.log2_lt hz (k := 20)).mpr (by omega)) (by decide)
theorem my_c0 {X : Cx} {k j : Nat} {x : Str} {sp : Sp} {dvs : List V} {p pos : Pos} (c : C8.Cal X.prog X.w X.K X.mg X.base k x sp dvs) (hr : Room j X.A) (hk : k ≤ j) (hg : Gl X x) (hdb : (x == ("__debug__" : Str)) = false := by decide) : PE X (.Call (.Name x p) [] [] pos) (tCall sp dvs C8.E0 tNil) := by
  obtain ⟨f, fd, ps, ds, F, hm, kp, b, d⟩ := c.ex
  exact pe_call0 F (hr.mono hk) hg hm kp b d C8.pass0 hdb
end WL
set_option Elab.async false
set_option linter.all false
set_option maxRecDepth 100000
set_option maxHeartbeats 4000000
/-! A lambda of one parameter, with captured names, handed to a def as its second argument and called there. -/
namespace WLam
open PySem PySem.Spec PyProof.Rows L2 LamX NdefX
theorem cells_un {cl : List (Str × Addr)} {fr : List Str} {ws : List (Option V)} {h h1 : Heap} {H H1 : Hp} {fs : List Addr} (C : CellsAt cl fr ws h H) (u : Un fs [] H H1 h h1) : CellsAt cl fr ws h1 H1 := by
  have kp : ∀ {c : Addr} {v : Option Value}, H c = none → h.IsCell c v → h1.IsCell c v := fun {c v} n ⟨o, ho, hd⟩ => by
    obtain ⟨sl, q⟩ := u.any ho n (by simp)
    exact ⟨_, q, hd⟩
  refine ⟨C.len, fun y c e => ?_, C.inj, fun i y e => ?_⟩
  · obtain ⟨n, v, z⟩ := C.all y c e
    have z' := z
    obtain ⟨o, ho, hd⟩ := z'
    exact ⟨u.free c o ho n (by simp), v, kp n z⟩
  · obtain ⟨c, hc, hv⟩ := C.has i y e
    refine ⟨c, hc, fun v ev => ?_⟩
    obtain ⟨w, r, z⟩ := hv v ev
    exact ⟨w, r, kp (C.all y c hc).1 z⟩
/-- the lambda's words as a made function -/
def lamF (q : Str) (params : Arguments) (scope : Scope) (cl : List (Str × Addr)) (c' : Addr) : NF := ⟨"<lambda>", q, params, [], scope, cl, c'⟩
/-- x(e), x a name that holds the lambda at f: te, then tb of the value -/
def tAct (i : Nat) (f c' : Addr) (q : Str) (ta : TA) (tl : V → Hp → VK → Prop) : TE := fun σ H Q => σ[i]? = some (some (.ref f)) ∧ ta σ H fun vs H1 => ∃ v, vs = [v] ∧ H1 c' = some (CodeO c' q) ∧ tl v H1 Q
section
variable {Z : Cx} {f c' : Addr} {q y x : Str} {params : Arguments} {body e : Expr} {scope : Scope} {cl : List (Str × Addr)} {fr N : List Str} {ws : List (Option V)} {pm ctv : Value} {k i : Nat} {tb : TE} {ta : TA} {p1 p2 : Pos}
theorem pe_act1 (ex0 : Z.ex = []) (hf : Z.s_0.heap.get? f = some (PySem.W.kla_obj "<lambda>" q params body scope cl pm c' ctv)) (hn : Z.H_0 f = none) (hfr : f ∉ Z.fs) (C : CellsAt cl fr ws Z.s_0.heap Z.H_0)
    (Sc : NScope N [y] fr scope) (hb : ∀ u : Value, bindArgs (PySem.W.kla_fn "<lambda>" q params body scope cl pm (.ref c') ctv) ⟨[u], []⟩ = pure [(y, u)]) (hr : Room (k + 1) Z.A) (hx : Passes C8.CX0 Z C8.E0)
    (hbody : ∀ (A : Around) (outer : List Env) (s : Shared) (H : Hp), Room k (A.deeper (envF (lamF q params scope cl c') f s.heap.objs.size)) → PE (ncx C8.CX0 Z.prog Z.w Z.K Z.mg Z.base N (lamF q params scope cl c') f A outer s H C8.E0) body tb)
    (hN : Z.N[i]? = some x) (hv : Vis Z.env.scope x) (ha : PA Z [e] ta) (hd : (x == ("__debug__" : Str)) = false := by decide) (hcd : (x == ("__classdict__" : Str)) = false := by decide)
    (hs : starEach [e] Z.env = (false, eval e Z.env) :: starEach [] Z.env := by rfl) : PE Z (.Call (.Name x p1) [e] [] p2) (tAct i f c' q ta fun v H Q => tb (startF N [v] ws) H Q) := by
  refine ⟨fun pins s σ H Q I h => ?_⟩
  obtain ⟨h1, h2⟩ := h
  refine wpAny_Call_Name_kw (thn ((pe_var (pos := p1) (i := i) hN hv hd hcd).run pins s σ H (fun v H1 => v = .ref f ∧ H1 = H) I ⟨.ref f, h1, rfl, rfl⟩) fun u s1 ⟨v, H1, I1, r1, qq⟩ => ?_)
  obtain ⟨ev, eH⟩ := qq
  subst ev
  rw [eH] at I1
  obtain rfl : u = Value.ref f := r1
  have look : ∀ {s2 : Shared} {σ2 : L2.St} {H2 : Hp}, L2.Inv Z pins σ2 H2 s2 → s2.heap.get? f = some (PySem.W.kla_obj "<lambda>" q params body scope cl pm c' ctv) := fun J => J.base.keep f _ hf hn hfr (by rw [ex0]; simp)
  refine PySem.W.callWith_F (first := []) ⟨_, _, _, _, look I1⟩ (thn (ha.run p2 pins s1 σ H _ I1 h2) fun us s2 ⟨vs, H2, I2, r, hh⟩ => ⟨⟨_, _, _, _, look I2⟩, ?_⟩) hs rfl
  obtain ⟨v, rfl, hc, ht⟩ := hh
  obtain ⟨u, rfl⟩ : ∃ u, us = [u] := by
    cases r with
    | cons a b => cases b; exact ⟨_, rfl⟩
  have rc : codeAny (model Z.prog Z.w) Z.A (.call (.ref f) ⟨[u], []⟩) (CR C8.CX0 Z.stack Z.prog Z.w H2 s2 Q C8.E0) s2 := by
    refine PySem.W.kla_callFunE hr.depth (look I2) rfl Sc.co Sc.gen rfl (codeO_at I2.hok hc) ?_
    rw [hb u]
    refine wpAny_pure (wpAny_newFunctionEnv Sc.nocell (fun z hz => ?_) (fun h₁ hns hsb => ⟨I2.nolimit.fresh _ hsb, ?_⟩) Sc.kind)
    · rw [List.mem_singleton.mp hz]; exact Sc.par y (List.mem_singleton.mpr rfl)
    show codeAny _ _ (.expr body (envF (lamF q params scope cl c') f s2.heap.objs.size)) _ _
    have kp : ∀ b o, s2.heap.get? b = some o → h₁.get? b = some o := fun b o e => hsb.extBut b o (Nat.ne_of_lt (Heap.lt_size e)) (Heap.get?_push_of_some _ e)
    have bs := I2.base
    rw [ex0] at bs
    have J : L2.Inv (ncx C8.CX0 Z.prog Z.w Z.K Z.mg Z.base N (lamF q params scope cl c') f Z.A Z.stack s2 H2 C8.E0) [] (startF N [v] ws) H2 { s2 with heap := h₁, toks := s2.toks + [(y, u)].length } :=
      inv_startN (ps := [y]) Sc hr.hd I2.env0 rfl r (cells_un C bs) hns kp
    refine PySem.W.kla_codeExpr (wpAny_mono ((hbody _ _ s2 H2 (hr.deeper _)).run [] _ _ H2 Q J ht) (fun v' s' hq => ?_) fun e s' hq => hq)
    obtain ⟨w', H', J', rv, q'⟩ := hq
    exact ⟨w', H', J'.os, J'.bare, J'.base, J'.hok, rv, q'⟩
  refine wpAny_call (codeAny_mono rc fun r' s' hq => ?_)
  cases r' with
  | error e => exact hx pins σ H2 s2 e s' I2 hq
  | ok fl =>
    cases fl with
    | ret u => exact I2.after hq
    | next => exact False.elim hq
    | brk => exact False.elim hq
    | cont => exact False.elim hq
end
/-- the def that is handed a value and the lambda: what it makes of the lambda's reading -/
def Gets (X : Cx) (Ng : List Str) (x : Str) (sg : Scope) (g : Addr) (cdg : Value) (bg : List Stmt) (pres q : Str) (TT : V → (V → Hp → VK → Prop) → Hp → VK → Prop) (j : Nat) : Prop :=
  ∀ (f c' : Addr) (s : Shared) (H : Hp) (Q : VK) (v : V) (tl : V → Hp → VK → Prop), Room j (X.A.deeper (envOfC x sg s.heap.objs.size g cdg)) →
    (∀ (p1 p2 : Pos) (e : Expr) (ta : TA), PA (cxOf C8.CX0 X.prog X.w X.K X.mg X.base Ng x sg g cdg X.A X.stack s H C8.E0).nox [e] ta → starEach [e] (envOfC x sg s.heap.objs.size g cdg) = (false, eval e (envOfC x sg s.heap.objs.size g cdg)) :: starEach [] (envOfC x sg s.heap.objs.size g cdg) →
      PE (cxOf C8.CX0 X.prog X.w X.K X.mg X.base Ng x sg g cdg X.A X.stack s H C8.E0).nox (.Call (.Name pres p1) [e] [] p2) (tAct 1 f c' q ta tl)) →
    H c' = some (CodeO c' q) → TT v tl H Q →
    ∃ t, PSs (cxOf C8.CX0 X.prog X.w X.K X.mg X.base Ng x sg g cdg X.A X.stack s H C8.E0).nox bg t ∧ t { nx := fun _ H' => Q .non H', rt := Q } (L2.start Ng [v, .ref f]) H
def tLam2 (T : List (Addr × Str)) (i0 : Nat) (N : List Str) (js : List Nat) (tb : TE) (TT : V → (V → Hp → VK → Prop) → Hp → VK → Prop) : TE := fun σ H Q => ∃ v, σ[i0]? = some (some v) ∧ Tabs T H ∧
  ∀ H1, ExtN H H1 → Tabs T H1 → TT v (fun u H' Q' => tb (startF N [u] (js.map (slotAt σ))) H' Q') H1 Q
section
variable {X : Cx}
/-- x(e0, lambda y: body) -/
theorem pe_lamcall2 {T : List (Addr × Str)} {TT : V → (V → Hp → VK → Prop) → Hp → VK → Prop} {x a b y x0 : Str} {g c P : Addr} {k i0 : Nat} {pg : Arguments} {bg : List Stmt} {sg : Scope} {dV kV doc pm cdv ct oc : Value} {an od : Option Addr} {osl : Array (Option Value)} {Ng N fr : List Str} {js : List Nat}
    {params : Arguments} {body : Expr} {scope : Scope} {tb : TE} {p p0 lpos pos : Pos} (hg : Gl X x) (hm : X.mg x = some (.ref g)) (hk : PySem.W.keepIn X.K (.ref g) = true)
    (lk : X.K.lookup g = some ⟨oc, od, .func (PySem.W.fnOf x x pg bg sg dV kV doc pm an cdv ct), osl⟩) (hcg : PySem.W.codeIn X.K cdv x = true) (hb : L2.Binds X.K (PySem.W.fnOf x x pg bg sg dV kV doc pm an cdv ct) [a, b] []) (Sg : FnScope Ng [a, b] sg) (hNg : Ng[1]? = some b) (hva : Vis sg b)
    (h0 : X.N[i0]? = some x0) (hv0 : Vis X.env.scope x0)
    (hG : Gets X Ng x sg g cdv bg b (X.env.qual ++ "<lambda>") TT (k + 1))
    (TB : TabB X.base X.mg c P) (hcode : X.env.code = .ref c) (hmT : (P, X.env.qual ++ "<lambda>") ∈ T) (hu : ∀ p ∈ T, p.1 = P → p.2 = X.env.qual ++ "<lambda>") (hr : Room (k + 2) X.A) (hdef : defaultsOf params X.env = ([], []))
    (Sc : NScope N [y] fr scope) (hfree : ∀ z ∈ scope.names, z.2 = .free → X.env.scope.names.lookup z.1 = some .cell ∨ X.env.scope.names.lookup z.1 = some .free) (hfr : ∀ z ∈ fr, (z, NameKind.free) ∈ scope.names) (hjs : js.map (fun j => X.N[j]?) = fr.map some)
    (hbind : ∀ (q : Str) (cl : List (Str × Addr)) (pm cv ctv u : Value), bindArgs (PySem.W.kla_fn "<lambda>" q params body scope cl pm cv ctv) ⟨[u], []⟩ = pure [(y, u)])
    (hbody : ∀ (A : Around) (outer : List Env) (s : Shared) (H : Hp) (q : Str) (cl : List (Str × Addr)) (c' f : Addr), Room k (A.deeper (envF (lamF q params scope cl c') f s.heap.objs.size)) → PE (ncx C8.CX0 X.prog X.w X.K X.mg X.base N (lamF q params scope cl c') f A outer s H C8.E0) body tb)
    (hdb : (x == ("__debug__" : Str)) = false := by decide) (hd : (b == ("__debug__" : Str)) = false := by decide) (hcd : (b == ("__classdict__" : Str)) = false := by decide) (hd0 : (x0 == ("__debug__" : Str)) = false := by decide) (hcd0 : (x0 == ("__classdict__" : Str)) = false := by decide) :
    PE X (.Call (.Name x p) [.Name x0 p0, .Lambda params body scope lpos] [] pos) (tLam2 T i0 N js tb TT) := by
  refine ⟨fun pins s σ H Q I h => ?_⟩
  obtain ⟨v, hv, hT, h⟩ := h
  have hf2 : ∀ z ∈ scope.names, z.2 = .free → ∃ c, X.env.cells.lookup z.1 = some c := fun z hz e => (hfree z hz e).elim (fun q => I.ok.has _ (.inl q)) fun q => I.ok.has _ (.inr q)
  refine wpAny_Call_Name_kw (ld_glob I hg hm ?_ hdb)
  refine PySem.W.callWith_K (h₀ := X.base) I.ok.mod.kin hk ?_ (by rfl) (by rfl)
  show wpAny _ _ (spliced ((false, eval (.Name x0 p0) X.env) :: (false, eval (.Lambda params body scope lpos) X.env) :: backTo pos (starEach [] X.env))) _ _ s
  refine Calls.spliced_cons (thn ((pe_var (pos := p0) (i := i0) h0 hv0 hd0 hcd0).run pins s σ H (fun w H1 => w = v ∧ H1 = H) I ⟨v, hv, rfl, rfl⟩) fun u0 s0 ⟨w, H0, I0, r0, e0⟩ => ?_)
  obtain ⟨ew, eH⟩ := e0
  subst ew
  rw [eH] at I0
  refine Calls.spliced_cons (lam_make2 I0 TB hcode hmT hu hT hdef hf2 fun f c' pm' ctv H1 s' I1 eN T1 hfo hfn hff hco => ?_)
  refine Calls.spliced_nil ⟨I1.kIn, ?_⟩
  have cp : Caps X (cloFrom X.env.cells scope.names []) fr js := Caps.made I1.ok hfree hfr hjs
  have C := cells_of I1 cp
  have rc : codeAny (model X.prog X.w) X.A (.call (.ref g) ⟨[u0, .ref f], []⟩) (CR C8.CX0 X.stack X.prog X.w H1 s' Q C8.E0) s' := by
    refine run_ofS (N := Ng) (ps := [a, b]) (us := [u0, .ref f]) (vs := [w, .ref f]) lk hcg Sg hr I1.env0 (hb s' [u0, .ref f] I1.kIn rfl) (.cons r0 (.cons rfl .nil)) rfl fun hr' => ?_
    obtain ⟨t', ht', hq'⟩ := hG f c' s' H1 Q w _ hr' (fun p1 p2 e ta ha hs => pe_act1 (Z := (cxOf C8.CX0 X.prog X.w X.K X.mg X.base Ng x sg g cdv X.A X.stack s' H1 C8.E0).nox) rfl hfo hfn hff C Sc (hbind _ _ _ _ _) hr' (C8.pass0) (fun A outer s H hr2 => hbody A outer s H _ _ _ f hr2) hNg hva ha hd hcd hs) hco (h H1 eN T1)
    exact ⟨t', ht'.nox, hq'⟩
  refine wpAny_call (codeAny_mono rc fun r s2 hq => ?_)
  cases r with
  | error e => exact (show False from hq).elim
  | ok fl =>
    cases fl with
    | ret u => exact I1.after hq
    | next => exact False.elim hq
    | brk => exact False.elim hq
    | cont => exact False.elim hq
end
/-- a def whose code object is told -/
structure FunC (K : PySem.W.Frag) (x qual : Str) (st : Stmt) (f cd : Addr) (fd : FuncData) : Prop where
  ex : ∃ (oc : Value) (od : Option Addr) (kV doc pm : Value) (an : Option Addr) (ct : Value) (osl : Array (Option Value)),
    fd = PySem.W.fnOf x qual (defArgs st) (defBody st) (defScope st) .none kV doc pm an (.ref cd) ct ∧ K.lookup f = some ⟨oc, od, .func fd, osl⟩ ∧ PySem.W.codeIn K (.ref cd) qual = true
theorem FunC.ok {P : Program} {w : World} {K : PySem.W.Frag} {mg : Str → Option Value} {base : Heap} {x qual : Str} {st : Stmt} {f cd : Addr} {fd : FuncData} {N ps : List Str} {k : Nat} {sp : Sp} (F : FunC K x qual st f cd fd) (S : FnScope N ps (defScope st)) (len : ∀ vs H Q E, sp vs H Q E → vs.length = ps.length)
    (hbody : ∀ (A : Around) (outer : List Env) (s : Shared) (H : Hp) (vs : List V) (Q : VK) (E : XK), Room k (A.deeper (envOfC qual (defScope st) s.heap.objs.size f (.ref cd))) → sp vs H Q E →
      ∃ t, PSs (cxOf C8.CX0 P w K mg base N qual (defScope st) f (.ref cd) A outer s H E).nox (defBody st) t ∧ t { nx := fun _ H' => Q .non H', rt := Q } (L2.start N vs) H) : FnOk P w K mg base C8.CX0 (k + 1) f fd ps sp := by
  obtain ⟨oc, od, kV, doc, pm, an, ct, osl, e, lk, hcd⟩ := F.ex
  subst e
  refine fn_of lk hcd S len fun A outer s H vs Q E hr hsp => ?_
  obtain ⟨t, h, q⟩ := hbody A outer s H vs Q E hr hsp
  exact ⟨t, h.nox, q⟩
/-- the end with tables: what stands in the head's heap is told -/
theorem walk_ofT2 {l : PySem.W.OpenLaw} {n k : Nat} {q : Program} {loose : List Str} {XP : (Str → Option Value) → Heap → Prop} {YP : World → Heap → Prop} {d : DefRec} {K : Params → PySem.W.Frag} {CX : World → CXT} {x : Str}
    (hn : l.most = some n) (hn2 : n ≤ sizeLine) (hdf : d.params.defaults = []) (hr : Room k callerA) (hY : ∀ (w : World) (h : Heap), YP w h → (K w.params).In h) (hd : (recsOf q).find? (fun e => e.name == ("law" : Str)) = some d)
    (F : ∀ (w : World) (mg : Str → Option Value) (fa : Addr) (h : Heap), (K w.params).In h → h.Ns mainGlobals mg → mg d.name = some (.ref fa) → (∀ c P, PySem.W.tabIn (K w.params) "law" = some (c, P) → PySem.W.CodeHd h c P ∧ h.get? P = some { cls := .none, data := .fields #[] }) → LawAtS l w (K w.params) (CX w) k n x mg fa h)
    (hCX : ∀ (w : World) (H : Hp) (s : Shared) (e : Value) (s' : Shared), CX w [] H s (fun _ _ _ => False) e s' → False) :
    PySem.W.WalkO q loose XP YP l.row.toRowW d [] (fun f vs => PySem.call f vs) := by
  refine Att.attach_callB hn hdf fun w s₀ s₁ mg mb fa o pm cd doc a vs ns G Y ho hd' hcd hmg hobj hints hlen hbits hg => ?_
  have KX := hY w _ Y
  obtain ⟨fd, cs, sp, hT, nT, C, hb, hsp, hF⟩ := F w mg fa _ KX G.T.g hmg (fun c P ht => PySem.W.tab_of G.T KX hd ht)
  exact law_callTs KX G.T.g G.T.b G.T.builtins G.T.nolimit hg hT nT C G.T.bmain hobj hints (Nat.le_trans hlen hn2) hr hF hb (fun H hH hS => hsp H a ns hlen hbits hH hS) fun H e s' => hCX w H s₁ e s'
end WLam
set_option Elab.async false
set_option linter.all false
set_option maxRecDepth 100000
set_option maxHeartbeats 4000000
namespace K05
open PySem PySem.Spec PyProof.Rows L2 WL
local macro_rules | `(tactic| walk_at "lk") => `(tactic| first
  | exact upd_same
  | assumption
  | (rw [upd_ne (by assumption)]; first | exact upd_same | assumption | (rw [upd_ne (by assumption)]; first | exact upd_same | assumption | (rw [upd_ne (by assumption)]; first | exact upd_same | assumption))))
local macro_rules | `(tactic| walk_at "go1") => `(tactic| first
  | (with_reducible refine g_seq ?_)
  | (with_reducible refine g_asg ?_)
  | (with_reducible refine g_name ?_)
  | (with_reducible refine g_sub ?_)
  | ((with_reducible refine' g_var ?gv ?_); (case gv => exact rfl))
  | (with_reducible refine g_c ?_)
  | (with_reducible refine g_op ?_)
  | (with_reducible refine g_un ?_)
  | (with_reducible refine g_I0 ?_)
  | ((with_reducible refine g_I ?gc ?_); (case gc => first | assumption | decide | (show (0 : Int) < _; omega) | exact Or.inr ⟨by omega, by omega⟩ | exact Or.inl ⟨by omega, by omega⟩ | exact ⟨by omega, by omega⟩))
  | (with_reducible refine iteT ?_)
  | (with_reducible refine iteF ?_)
  | (with_reducible refine iteNT ?_)
  | (with_reducible refine iteNF ?_)
  | (with_reducible refine g_andV ?_)
  | (with_reducible refine g_orV ?_)
  | ((with_reducible refine' g_lenS (by assumption) ?_))
  | ((with_reducible refine' g_lenS (SqL.of (by walk_at "lk")) ?_))
  | (with_reducible refine g_U ?_)
  | ((with_reducible refine g_eq ?gs ?_); (case gs => rfl))
  | ((with_reducible refine g_ne ?gs ?_); (case gs => rfl))
  | (with_reducible refine g_drop ?_)
  | (with_reducible refine g_ret ?_)
  | (with_reducible refine g_next ?_)
  | (with_reducible refine g_ifS ?_)
  | (with_reducible refine g_ifE ?_)
  | (with_reducible refine g_test ?_)
  | (with_reducible refine g_tb ?_)
  | (with_reducible refine g_bl ?_)
  | (with_reducible refine g_not ?_)
  | (with_reducible refine g_and ?_)
  | (with_reducible refine g_or ?_)
  | (with_reducible refine g_nil ?_)
  | (with_reducible refine g_cons ?_)
  | (with_reducible refine g_cb ?_)
  | (with_reducible refine g_call ?_)
  | (with_reducible refine g_int ?_)
  | (with_reducible refine g_two ?_)
  | ((with_reducible refine g_lenStr ?gz ?_); (case gz => first | assumption | exact sz_le (by omega)))
  | (with_reducible refine g_m1 ?_)
  | (with_reducible refine g_isS ?_)
  | (with_reducible refine g_nn ?_)
  | (with_reducible refine g_yes ?_)
  | (with_reducible refine g_for ?_)
  | (with_reducible refine g_ckw ?_)
  | (with_reducible refine g_iZip ?_)
  | (with_reducible refine g_lc ?_)
  | (with_reducible refine g_lc2 ?_)
  | (with_reducible refine g_iList ?_)
  | (with_reducible refine g_iRng1 ?_)
  | (with_reducible refine g_iRng2 ?_)
  | (with_reducible refine g_sl ?_)
  | (with_reducible refine g_noPart ?_)
  | (with_reducible refine g_part ?_)
  | (with_reducible refine g_ex1 ?_)
  | (with_reducible refine g_bm ?_)
  | ((with_reducible refine' g_tyL (by walk_at "lk") ?_))
  | ((with_reducible refine' g_aug ?gv ?_); (case gv => exact rfl))
  | (with_reducible refine g_ipI ?_)
  | (with_reducible refine g_turn ?_)
  | (with_reducible refine g_brk ?_)
  | (with_reducible refine g_cont ?_)
  | (with_reducible refine g_sign ?_)
  | (with_reducible refine g_lst ?_)
  | (with_reducible refine g_tup ?_)
  | ((with_reducible refine' g_ixL (by assumption) ?ga ?_); (case ga => assumption))
  | ((with_reducible refine' g_ixL (SqL.of (by walk_at "lk")) ?ga ?_); (case ga => first | exact rfl | assumption))
  | ((with_reducible refine' g_ixT (SqT.of (by walk_at "lk")) ?ga ?_); (case ga => first | exact rfl | assumption))
  | ((with_reducible refine' g_lenT (SqT.of (by walk_at "lk")) ?_))
  | ((with_reducible refine' g_isiS (b := true) ?ga ?_); (case ga => decide +kernel))
  | ((with_reducible refine' g_isiS (b := false) ?ga ?_); (case ga => decide +kernel))
  | ((with_reducible refine' g_isiI (b := true) ?ga ?_); (case ga => decide +kernel))
  | ((with_reducible refine' g_isiI (b := false) ?ga ?_); (case ga => decide +kernel))
  | ((with_reducible refine' g_setL2 ?ga ?gb ?_); (case ga => exact rfl); (case gb => exact rfl))
  | ((with_reducible refine' g_setL (by walk_at "lk") ?ga ?gb ?_); (case ga => exact rfl); (case gb => exact rfl)))
local macro_rules | `(tactic| walk_at "go") => `(tactic| ((repeat walk_at "go1"); try dsimp only [List.set, List.cons_append, List.nil_append]))
def topS (i : Nat) : Stmt := PySem.Challenge.pw_gatesworn_k05_least_rows.main.body.getD i (.Pass ⟨0, 0, 0, 0⟩)
abbrev s_least_rows : Stmt := topS 1
theorem sc_least_rows : FnScope ["rows", "present", "kept", "row", "rest", "other"] ["rows", "present"] (defScope s_least_rows) := ⟨rfl, rfl, rfl, by decide +kernel, rfl, by decide +kernel, by decide +kernel⟩
abbrev s__law_purse : Stmt := topS 3
theorem sc__law_purse : FnScope ["script", "cell"] ["script"] (defScope s__law_purse) := ⟨rfl, rfl, rfl, by decide +kernel, rfl, by decide +kernel, by decide +kernel⟩
abbrev s__law_draw : Stmt := topS 4
theorem sc__law_draw : FnScope ["purse", "many", "cell", "digit", "once", "twice"] ["purse", "many"] (defScope s__law_draw) := ⟨rfl, rfl, rfl, by decide +kernel, rfl, by decide +kernel, by decide +kernel⟩
abbrev s__law_rows : Stmt := topS 5
theorem sc__law_rows : FnScope ["purse", "amount", "place", "rising", "k", "rows"] ["purse", "amount"] (defScope s__law_rows) := ⟨rfl, rfl, rfl, by decide +kernel, rfl, by decide +kernel, by decide +kernel⟩
abbrev s__law_family : Stmt := topS 6
theorem sc__law_family : FnScope ["purse", "rows", "way", "weights", "sets", "k", "share", "row"] ["purse", "rows", "way"] (defScope s__law_family) := ⟨rfl, rfl, rfl, by decide +kernel, rfl, by decide +kernel, by decide +kernel⟩
abbrev s__law_holds : Stmt := topS 7
theorem sc__law_holds : FnScope ["sets", "some", "one", "row"] ["sets", "some"] (defScope s__law_holds) := ⟨rfl, rfl, rfl, by decide +kernel, rfl, by decide +kernel, by decide +kernel⟩
abbrev s__law_present : Stmt := topS 8
theorem sc__law_present : FnScope ["rows", "family", "some", "here", "weight", "k"] ["rows", "family", "some"] (defScope s__law_present) := ⟨rfl, rfl, rfl, by decide +kernel, rfl, by decide +kernel, by decide +kernel⟩
abbrev s__law_note : Stmt := topS 9
theorem sc__law_note : FnScope ["rows", "family", "seen", "some"] ["rows", "family", "seen", "some"] (defScope s__law_note) := ⟨rfl, rfl, rfl, by decide +kernel, rfl, by decide +kernel, by decide +kernel⟩
abbrev s__law_integers : Stmt := topS 10
theorem sc__law_integers : FnScope ["told", "due", "k"] ["told", "due"] (defScope s__law_integers) := ⟨rfl, rfl, rfl, by decide +kernel, rfl, by decide +kernel, by decide +kernel⟩
abbrev s__law_order : Stmt := topS 11
theorem sc__law_order : FnScope ["rows", "one", "row"] ["rows", "one"] (defScope s__law_order) := ⟨rfl, rfl, rfl, by decide +kernel, rfl, by decide +kernel, by decide +kernel⟩
abbrev s_law : Stmt := topS 12
theorem sc_law : FnScope ["script", "purse", "large", "way", "amount", "rows", "family", "handed", "seen", "told", "left", "row", "less", "one"] ["script"] (defScope s_law) := ⟨rfl, rfl, rfl, by decide +kernel, rfl, by decide +kernel, by decide +kernel⟩
structure Txt (K : PySem.W.Frag) (mg : Str → Option Value) (dA : Nat → Addr) : Prop where
  b_bool : mg "bool" = none
  b_int : mg "int" = none
  b_isinstance : mg "isinstance" = none
  b_len : mg "len" = none
  b_list : mg "list" = none
  b_max : mg "max" = none
  b_range : mg "range" = none
  b_sorted : mg "sorted" = none
  b_sum : mg "sum" = none

end K05
set_option Elab.async false
set_option linter.all false
set_option maxRecDepth 100000
set_option maxHeartbeats 4000000
namespace K05
open PySem PySem.Spec PyProof.Rows L2 WL
local macro_rules | `(tactic| walk_at "lk") => `(tactic| first
  | exact upd_same
  | assumption
  | (rw [upd_ne (by assumption)]; first | exact upd_same | assumption | (rw [upd_ne (by assumption)]; first | exact upd_same | assumption | (rw [upd_ne (by assumption)]; first | exact upd_same | assumption))))
local macro_rules | `(tactic| walk_at "go1") => `(tactic| first
  | (with_reducible refine g_seq ?_)
  | (with_reducible refine g_asg ?_)
  | (with_reducible refine g_name ?_)
  | (with_reducible refine g_sub ?_)
  | ((with_reducible refine' g_var ?gv ?_); (case gv => exact rfl))
  | (with_reducible refine g_c ?_)
  | (with_reducible refine g_op ?_)
  | (with_reducible refine g_un ?_)
  | (with_reducible refine g_I0 ?_)
  | ((with_reducible refine g_I ?gc ?_); (case gc => first | assumption | decide | (show (0 : Int) < _; omega) | exact Or.inr ⟨by omega, by omega⟩ | exact Or.inl ⟨by omega, by omega⟩ | exact ⟨by omega, by omega⟩))
  | (with_reducible refine iteT ?_)
  | (with_reducible refine iteF ?_)
  | (with_reducible refine iteNT ?_)
  | (with_reducible refine iteNF ?_)
  | (with_reducible refine g_andV ?_)
  | (with_reducible refine g_orV ?_)
  | ((with_reducible refine' g_lenS (by assumption) ?_))
  | ((with_reducible refine' g_lenS (SqL.of (by walk_at "lk")) ?_))
  | (with_reducible refine g_U ?_)
  | ((with_reducible refine g_eq ?gs ?_); (case gs => rfl))
  | ((with_reducible refine g_ne ?gs ?_); (case gs => rfl))
  | (with_reducible refine g_drop ?_)
  | (with_reducible refine g_ret ?_)
  | (with_reducible refine g_next ?_)
  | (with_reducible refine g_ifS ?_)
  | (with_reducible refine g_ifE ?_)
  | (with_reducible refine g_test ?_)
  | (with_reducible refine g_tb ?_)
  | (with_reducible refine g_bl ?_)
  | (with_reducible refine g_not ?_)
  | (with_reducible refine g_and ?_)
  | (with_reducible refine g_or ?_)
  | (with_reducible refine g_nil ?_)
  | (with_reducible refine g_cons ?_)
  | (with_reducible refine g_cb ?_)
  | (with_reducible refine g_call ?_)
  | (with_reducible refine g_int ?_)
  | (with_reducible refine g_two ?_)
  | ((with_reducible refine g_lenStr ?gz ?_); (case gz => first | assumption | exact sz_le (by omega)))
  | (with_reducible refine g_m1 ?_)
  | (with_reducible refine g_isS ?_)
  | (with_reducible refine g_nn ?_)
  | (with_reducible refine g_yes ?_)
  | (with_reducible refine g_for ?_)
  | (with_reducible refine g_ckw ?_)
  | (with_reducible refine g_iZip ?_)
  | (with_reducible refine g_lc ?_)
  | (with_reducible refine g_lc2 ?_)
  | (with_reducible refine g_iList ?_)
  | (with_reducible refine g_iRng1 ?_)
  | (with_reducible refine g_iRng2 ?_)
  | (with_reducible refine g_sl ?_)
  | (with_reducible refine g_noPart ?_)
  | (with_reducible refine g_part ?_)
  | (with_reducible refine g_ex1 ?_)
  | (with_reducible refine g_bm ?_)
  | ((with_reducible refine' g_tyL (by walk_at "lk") ?_))
  | ((with_reducible refine' g_aug ?gv ?_); (case gv => exact rfl))
  | (with_reducible refine g_ipI ?_)
  | (with_reducible refine g_turn ?_)
  | (with_reducible refine g_brk ?_)
  | (with_reducible refine g_cont ?_)
  | (with_reducible refine g_sign ?_)
  | (with_reducible refine g_lst ?_)
  | (with_reducible refine g_tup ?_)
  | ((with_reducible refine' g_ixL (by assumption) ?ga ?_); (case ga => assumption))
  | ((with_reducible refine' g_ixL (SqL.of (by walk_at "lk")) ?ga ?_); (case ga => first | exact rfl | assumption))
  | ((with_reducible refine' g_ixT (SqT.of (by walk_at "lk")) ?ga ?_); (case ga => first | exact rfl | assumption))
  | ((with_reducible refine' g_lenT (SqT.of (by walk_at "lk")) ?_))
  | ((with_reducible refine' g_isiS (b := true) ?ga ?_); (case ga => decide +kernel))
  | ((with_reducible refine' g_isiS (b := false) ?ga ?_); (case ga => decide +kernel))
  | ((with_reducible refine' g_isiI (b := true) ?ga ?_); (case ga => decide +kernel))
  | ((with_reducible refine' g_isiI (b := false) ?ga ?_); (case ga => decide +kernel))
  | ((with_reducible refine' g_setL2 ?ga ?gb ?_); (case ga => exact rfl); (case gb => exact rfl))
  | ((with_reducible refine' g_setL (by walk_at "lk") ?ga ?gb ?_); (case ga => exact rfl); (case gb => exact rfl)))
local macro_rules | `(tactic| walk_at "go") => `(tactic| ((repeat walk_at "go1"); try dsimp only [List.set, List.cons_append, List.nil_append]))
def Purse (c b : Addr) (H : Hp) : Prop := ∃ (cells : List Int) (x1 x2 x3 x4 x5 : Int), H b = some (.lst [.ref c, .int x1, .int x2, .int x3, .int x4, .int x5]) ∧ H c = some (.lst (cells.map V.int)) ∧ 0 ≤ x1
theorem Purse.put {c b p : Addr} {H : Hp} {o : HO} (h : Purse c b H) (nb : p ≠ b) (nc : p ≠ c) : Purse c b (upd H p o) := by
  obtain ⟨cells, x1, x2, x3, x4, x5, hb, hc, h1⟩ := h
  exact ⟨cells, x1, x2, x3, x4, x5, by rw [upd_ne nb.symm]; exact hb, by rw [upd_ne nc.symm]; exact hc, h1⟩
theorem Purse.nb {c b p : Addr} {H : Hp} (h : Purse c b H) (np : H p = none) : p ≠ b ∧ p ≠ c := by
  obtain ⟨cells, x1, x2, x3, x4, x5, hb, hc, h1⟩ := h
  exact ⟨(ne_of_none hb np).symm, (ne_of_none hc np).symm⟩
theorem Purse.new {c b p : Addr} {H : Hp} {o : HO} (h : Purse c b H) (np : H p = none) : Purse c b (upd H p o) := h.put (h.nb np).1 (h.nb np).2
theorem Purse.same {c b : Addr} {H H' : Hp} (h : Purse c b H) (s : Same H H') : Purse c b H' := by
  obtain ⟨cells, x1, x2, x3, x4, x5, hb, hc, h1⟩ := h
  exact ⟨cells, x1, x2, x3, x4, x5, s _ _ hb, s _ _ hc, h1⟩
def spPurse (K : PySem.W.Frag) : Sp := fun vs H Q _ => ∃ (a : Addr) (ns : List Int), vs = [.ref a] ∧ SqL K H a (ns.map V.int) ∧ ns.length ≤ 63 ∧ ∀ c b H', Same H H' → Purse c b H' → Q (.ref b) H'
def spDraw : Sp := fun vs H Q _ => ∃ (b c : Addr) (m : Int), vs = [.ref b, .int m] ∧ Purse c b H ∧ 1 ≤ m ∧ m ≤ 1000000 ∧ ∀ d H', 0 ≤ d → d < m → Kp b H H' → Purse c b H' → Q (.int d) H'
theorem g_draw {b c : Addr} {m : Int} {H : Hp} {Q : VK} {E : XK} (hB : Purse c b H) (h1 : 1 ≤ m) (h2 : m ≤ 1000000) (q : ∀ d H', 0 ≤ d → d < m → Kp b H H' → Purse c b H' → Q (.int d) H') : spDraw [.ref b, .int m] H Q E := ⟨b, c, m, rfl, hB, h1, h2, q⟩
def spRows : Sp := fun vs H Q _ => ∃ (b c : Addr) (n : Nat), vs = [.ref b, .int n] ∧ Purse c b H ∧ n ≤ 41 ∧ ∀ p (rs : List Int) H', H p = none → Kp b H H' → Purse c b H' → H' p = some (.lst (rs.map V.int)) → rs.length = n → rs.Nodup → Q (.ref p) H'
section
variable {P : Program} {w : World} {K : PySem.W.Frag} {mg : Str → Option Value} {base : Heap} {dA : Nat → Addr}
theorem ok__law_purse (T : Txt K mg dA)  {f : Addr} {fd : FuncData} (F : Fun K "_law_purse" "_law_purse" s__law_purse f fd) : FnOk P w K mg base CX0 1 f fd ["script"] (spPurse K) := by
  refine F.ok sc__law_purse (fun vs H Q E h => ?_) (fun cdv A outer s H vs Q E hr h => ?_)
  · obtain ⟨a, ns, rfl, _⟩ := h
    rfl
  obtain ⟨a, ns, rfl, hS, hl, q⟩ := h
  refine ⟨_, (pss_one (ps_ret (pe_lst (pa_cons (pe_lc (own := [("cell", 1)]) rfl sc__law_purse.nd (kpi_list K (pe_slice (ksl_list K) (pv 0) po_none (po_some pe_int))) (blkOk_by (own := [("cell", 1)]) (N := ["script", "cell"]) (sc := defScope s__law_purse) (by decide +kernel)) (fun _ _ _ _ _ => (pg_name (i := 1) sc__law_purse.nd rfl (.inl rfl))) (fun _ _ _ _ _ => pts_nil) (fun _ _ _ _ _ => (pe_callTy call_int1 (by rfl) T.b_int (by decide +kernel) (pa_cons (pv 1) pa_nil)))) (pa_cons pe_int (pa_cons pe_int (pa_cons pe_int (pa_cons pe_int (pa_cons pe_int pa_nil))))))))), ?_⟩
  rw [show (L2.start ["script", "cell"] [.ref a] : L2.St) = [some (.ref a), none] from rfl]
  try simp only [WL.cxK]
  walk_at "go"
  refine g_slL hS (cut_to _ 63) fun sl nsl => ?_
  rw [List.take_of_length_le (by rw [List.length_map]; exact hl)]
  have s1 : Same H (upd H sl (.lst (ns.map V.int))) := same_new nsl
  refine f_lcMap (xs := ns.map V.int) (SqL.of upd_same) (by rw [List.length_map]; omega) (fun x => x) (fun _ => rfl) (fun i x H' Q' hx s2 hq => ?_) (fun D nD => ?_)
  · obtain ⟨n, hn, rfl⟩ := map_at hx
    walk_at "go"
    exact hq
  have hid : (ns.map V.int).map (fun x => x) = ns.map V.int := List.map_id _
  rw [hid]
  walk_at "go"
  refine ⟨sz_le (n := 6) (by decide), fun b nb => ?_⟩
  have hD : (upd (upd H sl (.lst (ns.map V.int))) D (.lst (ns.map V.int))) D = some (.lst (ns.map V.int)) := upd_same
  have nDb : D ≠ b := ne_of_none hD nb
  exact q D b _ ((s1.trans (same_new nD)).trans (same_new nb)) ⟨ns, 0, 0, 0, 5, 0, upd_same, by rw [upd_ne nDb]; exact hD, Int.le_refl _⟩
theorem ok__law_draw (T : Txt K mg dA)  {f : Addr} {fd : FuncData} (F : Fun K "_law_draw" "_law_draw" s__law_draw f fd) : FnOk P w K mg base CX0 1 f fd ["purse", "many"] spDraw := by
  refine F.ok sc__law_draw (fun vs H Q E h => ?_) (fun cdv A outer s H vs Q E hr h => ?_)
  · obtain ⟨b, c, m, rfl, _⟩ := h
    rfl
  obtain ⟨b, c, m, rfl, ⟨cells, x1, x2, x3, x4, x5, hb, hc, h1⟩, hm1, hm2, q⟩ := h
  refine ⟨_, (Evl.pss_cut (ps_if (PW.pt (pw_and (pt_cmpR op_eq (pe_ix (kix_list K) (pv 0) pe_int (fun _ _ => rfl)) pe_int (nomark _)) (pw_and1 (pt_cmpR op_lt (pe_ix (kix_list K) (pv 0) pe_int (fun _ _ => rfl)) (pe_callB (kcall_len_seq K) (by rfl) T.b_len (by decide +kernel) (pa_cons (pe_ix (kix_list K) (pv 0) pe_int (fun _ _ => rfl)) pa_nil)) (nomark _))))) (pss_cons (ps_set (i := 2) sc__law_draw.nd rfl (.inl rfl) (pe_ix (kix_list K) (pe_ix (kix_list K) (pv 0) pe_int (fun _ _ => rfl)) (pe_ix (kix_list K) (pv 0) pe_int (fun _ _ => rfl)) (fun _ _ => rfl)))
      (pss_cons (ps_asg (pe_op op_add (pe_ix (kix_list K) (pv 0) pe_int (fun _ _ => rfl)) pe_int) (pg_sub (pv 0) pe_int set_list))
      (pss_cons (ps_asg pe_int (pg_sub (pv 0) pe_int set_list))
      (pss_cons (ps_asg pe_int (pg_sub (pv 0) pe_int set_list))
      (pss_cons (ps_if (pt_cmpR op_ge (pv 2) (pe_op op_pow pe_int pe_int) (nomark _)) (pss_cons (ps_asg (pv 2) (pg_sub (pv 0) pe_int set_list))
      (pss_one (ps_asg pe_int (pg_sub (pv 0) pe_int set_list)))) pss_nil)
      (pss_one (ps_asg (pe_op op_mod (pe_callTy call_int1 (by rfl) T.b_int (by decide +kernel) (pa_cons (pe_op op_add (pe_op op_mul (pe_ix (kix_list K) (pv 0) pe_int (fun _ _ => rfl)) pe_int) (pv 2)) pa_nil)) pe_int) (pg_sub (pv 0) pe_int set_list)))))))) pss_nil)
      (pss_cons (ps_asg (pe_callB (call_max2 rfl) (by rfl) T.b_max (by decide +kernel) (pa_cons pe_int (pa_cons (pe_op op_sub (pe_ix (kix_list K) (pv 0) pe_int (fun _ _ => rfl)) pe_int) pa_nil))) (pg_sub (pv 0) pe_int set_list))
      (pss_cons (ps_if (pt_cmpR op_gt (pe_ix (kix_list K) (pv 0) pe_int (fun _ _ => rfl)) pe_int (nomark _)) (pss_cons (ps_set (i := 3) sc__law_draw.nd rfl (.inl rfl) (pe_op op_mod (pe_callTy call_int1 (by rfl) T.b_int (by decide +kernel) (pa_cons (pe_ix (kix_list K) (pv 0) pe_int (fun _ _ => rfl)) pa_nil)) (pv 1)))
      (pss_cons (ps_asg (pe_op op_fdiv (pe_callTy call_int1 (by rfl) T.b_int (by decide +kernel) (pa_cons (pe_ix (kix_list K) (pv 0) pe_int (fun _ _ => rfl)) pa_nil)) (pv 1)) (pg_sub (pv 0) pe_int set_list))
      (pss_one (ps_ret (pv 3))))) pss_nil)
      (pss_cons (ps_asg (pe_op op_add (pe_ix (kix_list K) (pv 0) pe_int (fun _ _ => rfl)) pe_int) (pg_sub (pv 0) pe_int set_list))
      (pss_cons (ps_set (i := 4) sc__law_draw.nd rfl (.inl rfl) (pe_op op_mod (pe_callTy call_int1 (by rfl) T.b_int (by decide +kernel) (pa_cons (pe_op op_add (pe_op op_add (pe_op op_mul (pe_ix (kix_list K) (pv 0) pe_int (fun _ _ => rfl)) pe_int) (pe_op op_mul (pe_ix (kix_list K) (pv 0) pe_int (fun _ _ => rfl)) pe_int)) pe_int) pa_nil)) pe_int))
      (pss_cons (ps_set (i := 5) sc__law_draw.nd rfl (.inl rfl) (pe_op op_mod (pe_callTy call_int1 (by rfl) T.b_int (by decide +kernel) (pa_cons (pe_op op_add (pe_op op_add (pe_op op_mul (pv 4) pe_int) (pe_op op_mul (pe_op op_fdiv (pv 4) pe_int) (pe_op op_fdiv (pv 4) pe_int))) (pe_ix (kix_list K) (pv 0) pe_int (fun _ _ => rfl))) pa_nil)) pe_int))
      (pss_one (ps_ret (pe_op op_mod (pe_op op_fdiv (pv 5) pe_int) (pv 1)))))))))), ?_⟩
  rw [show (L2.start ["purse", "many", "cell", "digit", "once", "twice"] [.ref b, .int m] : L2.St) = [some (.ref b), some (.int m), none, none, none, none] from rfl]
  try simp only [WL.cxK]
  have nbc : b ≠ c := fun e => by
    rw [e, hc] at hb
    cases cells with
    | nil => cases hb
    | cons z l => cases hb
  refine ⟨fun σ' H' => ∃ (y : Option V) (x1 x2 x3 x4 x5 : Int), σ' = [some (.ref b), some (.int m), y, none, none, none] ∧ H' b = some (.lst [.ref c, .int x1, .int x2, .int x3, .int x4, .int x5]) ∧ H' c = some (.lst (cells.map V.int)) ∧ 0 ≤ x1 ∧ Kp b H H', ?_, fun σ' H' hmm => ?_⟩
  · have stay : ∀ y, ∃ (y' : Option V) (z1 z2 z3 z4 z5 : Int), ([some (.ref b), some (.int m), y, none, none, none] : L2.St) = [some (.ref b), some (.int m), y', none, none, none] ∧ H b = some (.lst [.ref c, .int z1, .int z2, .int z3, .int z4, .int z5]) ∧ H c = some (.lst (cells.map V.int)) ∧ 0 ≤ z1 ∧ Kp b H H := fun y => ⟨y, _, _, _, _, _, rfl, hb, hc, h1, Kp.refl H⟩
    walk_at "go"
    refine g_iteI (fun e2 => ?_) (fun e2 => ?_)
    · walk_at "go"
      rw [List.length_map]
      refine g_ite (fun e3 => ?_) (fun e3 => ?_)
      · have hj : x1.toNat < cells.length := by omega
        have hcell : (cells.map V.int)[x1.toNat]? = some (.int cells[x1.toNat]) := by rw [List.getElem?_map, List.getElem?_eq_getElem hj]; rfl
        generalize cells[x1.toNat] = cell at hcell
        walk_at "go"
        refine g_ixL (SqL.of hc) (at_z (j := x1.toNat) (by omega) hcell) ?_
        walk_at "go"
        refine g_ite (fun e4 => ?_) (fun e4 => ?_)
        · walk_at "go"
          exact ⟨_, _, _, _, _, _, rfl, upd_same, by rw [upd_ne nbc.symm]; exact hc, by omega, (Kp.refl H).set⟩
        · walk_at "go"
          exact ⟨_, _, _, _, _, _, rfl, upd_same, by rw [upd_ne nbc.symm]; exact hc, by omega, (Kp.refl H).set⟩
      · walk_at "go"
        exact stay _
    · walk_at "go"
      exact stay _
  clear hb hc h1 x1 x2 x3 x4 x5
  obtain ⟨y, x1, x2, x3, x4, x5, rfl, hb, hc, h1, kp⟩ := hmm
  have hfin : ∀ z : Int, 0 ≤ z % m ∧ z % m < m := fun z => ⟨Int.emod_nonneg _ (by omega), Int.emod_lt_of_pos _ (by omega)⟩
  walk_at "go"
  refine g_ite (fun e1 => ?_) (fun e1 => ?_)
  · walk_at "go"
    exact q _ _ (hfin _).1 (hfin _).2 kp.set ⟨cells, _, _, _, _, _, upd_same, by rw [upd_ne nbc.symm]; exact hc, h1⟩
  walk_at "go"
  exact q _ _ (hfin _).1 (hfin _).2 kp.set ⟨cells, _, _, _, _, _, upd_same, by rw [upd_ne nbc.symm]; exact hc, h1⟩
end
end K05
set_option Elab.async false
set_option linter.all false
set_option maxRecDepth 100000
set_option maxHeartbeats 4000000
namespace K05
open PySem PySem.Spec PyProof.Rows L2 WL
local macro_rules | `(tactic| walk_at "lk") => `(tactic| first
  | exact upd_same
  | assumption
  | (rw [upd_ne (by assumption)]; first | exact upd_same | assumption | (rw [upd_ne (by assumption)]; first | exact upd_same | assumption | (rw [upd_ne (by assumption)]; first | exact upd_same | assumption))))
local macro_rules | `(tactic| walk_at "go1") => `(tactic| first
  | (with_reducible refine g_seq ?_)
  | (with_reducible refine g_asg ?_)
  | (with_reducible refine g_name ?_)
  | (with_reducible refine g_sub ?_)
  | ((with_reducible refine' g_var ?gv ?_); (case gv => exact rfl))
  | (with_reducible refine g_c ?_)
  | (with_reducible refine g_op ?_)
  | (with_reducible refine g_un ?_)
  | (with_reducible refine g_I0 ?_)
  | ((with_reducible refine g_I ?gc ?_); (case gc => first | assumption | decide | (show (0 : Int) < _; omega) | exact Or.inr ⟨by omega, by omega⟩ | exact Or.inl ⟨by omega, by omega⟩ | exact ⟨by omega, by omega⟩))
  | (with_reducible refine iteT ?_)
  | (with_reducible refine iteF ?_)
  | (with_reducible refine iteNT ?_)
  | (with_reducible refine iteNF ?_)
  | (with_reducible refine g_andV ?_)
  | (with_reducible refine g_orV ?_)
  | ((with_reducible refine' g_lenS (by assumption) ?_))
  | ((with_reducible refine' g_lenS (SqL.of (by walk_at "lk")) ?_))
  | (with_reducible refine g_U ?_)
  | ((with_reducible refine g_eq ?gs ?_); (case gs => rfl))
  | ((with_reducible refine g_ne ?gs ?_); (case gs => rfl))
  | (with_reducible refine g_drop ?_)
  | (with_reducible refine g_ret ?_)
  | (with_reducible refine g_next ?_)
  | (with_reducible refine g_ifS ?_)
  | (with_reducible refine g_ifE ?_)
  | (with_reducible refine g_test ?_)
  | (with_reducible refine g_tb ?_)
  | (with_reducible refine g_bl ?_)
  | (with_reducible refine g_not ?_)
  | (with_reducible refine g_and ?_)
  | (with_reducible refine g_or ?_)
  | (with_reducible refine g_nil ?_)
  | (with_reducible refine g_cons ?_)
  | (with_reducible refine g_cb ?_)
  | (with_reducible refine g_call ?_)
  | (with_reducible refine g_int ?_)
  | (with_reducible refine g_two ?_)
  | ((with_reducible refine g_lenStr ?gz ?_); (case gz => first | assumption | exact sz_le (by omega)))
  | (with_reducible refine g_m1 ?_)
  | (with_reducible refine g_isS ?_)
  | (with_reducible refine g_nn ?_)
  | (with_reducible refine g_yes ?_)
  | (with_reducible refine g_for ?_)
  | (with_reducible refine g_ckw ?_)
  | (with_reducible refine g_iZip ?_)
  | (with_reducible refine g_lc ?_)
  | (with_reducible refine g_lc2 ?_)
  | (with_reducible refine g_iList ?_)
  | (with_reducible refine g_iRng1 ?_)
  | (with_reducible refine g_iRng2 ?_)
  | (with_reducible refine g_sl ?_)
  | (with_reducible refine g_noPart ?_)
  | (with_reducible refine g_part ?_)
  | (with_reducible refine g_ex1 ?_)
  | (with_reducible refine g_bm ?_)
  | ((with_reducible refine' g_tyL (by walk_at "lk") ?_))
  | ((with_reducible refine' g_aug ?gv ?_); (case gv => exact rfl))
  | (with_reducible refine g_ipI ?_)
  | (with_reducible refine g_turn ?_)
  | (with_reducible refine g_brk ?_)
  | (with_reducible refine g_cont ?_)
  | (with_reducible refine g_sign ?_)
  | (with_reducible refine g_lst ?_)
  | (with_reducible refine g_tup ?_)
  | ((with_reducible refine' g_ixL (by assumption) ?ga ?_); (case ga => assumption))
  | ((with_reducible refine' g_ixL (SqL.of (by walk_at "lk")) ?ga ?_); (case ga => first | exact rfl | assumption))
  | ((with_reducible refine' g_ixT (SqT.of (by walk_at "lk")) ?ga ?_); (case ga => first | exact rfl | assumption))
  | ((with_reducible refine' g_lenT (SqT.of (by walk_at "lk")) ?_))
  | ((with_reducible refine' g_isiS (b := true) ?ga ?_); (case ga => decide +kernel))
  | ((with_reducible refine' g_isiS (b := false) ?ga ?_); (case ga => decide +kernel))
  | ((with_reducible refine' g_isiI (b := true) ?ga ?_); (case ga => decide +kernel))
  | ((with_reducible refine' g_isiI (b := false) ?ga ?_); (case ga => decide +kernel))
  | ((with_reducible refine' g_setL2 ?ga ?gb ?_); (case ga => exact rfl); (case gb => exact rfl))
  | ((with_reducible refine' g_setL (by walk_at "lk") ?ga ?gb ?_); (case ga => exact rfl); (case gb => exact rfl)))
local macro_rules | `(tactic| walk_at "go") => `(tactic| ((repeat walk_at "go1"); try dsimp only [List.set, List.cons_append, List.nil_append]))
theorem erase_perm : ∀ {l : List Int} {k : Nat} (h : k < l.length), l.Perm (l[k] :: l.eraseIdx k)
  | a :: l, 0, _ => .refl _
  | a :: l, k + 1, h => by
    have h' : k < l.length := by simp at h; omega
    have := erase_perm h'
    exact ((List.Perm.cons a this).trans (List.Perm.swap _ _ _))
theorem map_erase : ∀ (l : List Int) (k : Nat), (l.map V.int).eraseIdx k = (l.eraseIdx k).map V.int
  | [], _ => rfl
  | a :: l, 0 => rfl
  | a :: l, k + 1 => by
    show V.int a :: (l.map V.int).eraseIdx k = _
    rw [map_erase l k]; rfl
section
variable {P : Program} {w : World} {K : PySem.W.Frag} {mg : Str → Option Value} {base : Heap} {dA : Nat → Addr}
theorem ok__law_rows (T : Txt K mg dA) (c__law_draw : C8.Cal P w K mg base 1 "_law_draw" spDraw []) {f : Addr} {fd : FuncData} (F : Fun K "_law_rows" "_law_rows" s__law_rows f fd) : FnOk P w K mg base CX0 2 f fd ["purse", "amount"] spRows := by
  refine F.ok sc__law_rows (fun vs H Q E h => ?_) (fun cdv A outer s H vs Q E hr h => ?_)
  · obtain ⟨b, c, n, rfl, _⟩ := h
    rfl
  obtain ⟨b, c, n, rfl, hB, hn, q⟩ := h
  refine ⟨_, (pss_cons (ps_set (i := 2) sc__law_rows.nd rfl (.inl rfl) (pe_ix (kix_list K) (pe_lst (pa_cons pe_int (pa_cons pe_int (pa_cons pe_int (pa_cons (pe_un un_neg pe_int) (pa_cons (pe_op op_pow pe_int pe_int) pa_nil)))))) (C8.pe_c c__law_draw hr (by decide) (by rfl) (pa_cons (pv 0) (pa_cons pe_int pa_nil))) (fun _ _ => rfl)))
      (pss_cons (ps_set (i := 3) sc__law_rows.nd rfl (.inl rfl) (pe_lst pa_nil))
      (pss_cons (ps_for PassesOwn.never rfl (pi_range1 (by rfl) T.b_range (pa_cons (pv 1) pa_nil)) (pg_name (i := 4) sc__law_rows.nd rfl (.inl rfl)) (pss_cons (ps_expr (kpe_bm K PySem.F.plainAttrs_list PySem.F.slot_list_append PySem.F.type_list_append mt_append (pv 3) (pa_cons (pv 2) pa_nil)))
      (pss_one (ps_set (i := 2) sc__law_rows.nd rfl (.inl rfl) (pe_op op_add (pe_op op_add (pv 2) pe_int) (C8.pe_c c__law_draw hr (by decide) (by rfl) (pa_cons (pv 0) (pa_cons pe_int pa_nil))))))))
      (pss_cons (ps_if (pt_cmpR op_eq (C8.pe_c c__law_draw hr (by decide) (by rfl) (pa_cons (pv 0) (pa_cons pe_int pa_nil))) pe_int (nomark _)) (pss_one (ps_ret (pv 3))) pss_nil)
      (pss_cons (ps_set (i := 5) sc__law_rows.nd rfl (.inl rfl) (pe_lst pa_nil))
      (pss_cons (ps_for PassesOwn.never rfl (pi_range1 (by rfl) T.b_range (pa_cons (pv 1) pa_nil)) (pg_name (i := 4) sc__law_rows.nd rfl (.inl rfl)) (pss_one (ps_expr (kpe_bm K PySem.F.plainAttrs_list PySem.F.slot_list_append PySem.F.type_list_append mt_append (pv 5) (pa_cons (kpe_bm K PySem.F.plainAttrs_list PySem.F.slot_list_pop PySem.F.type_list_pop mt_popAt (pv 3) (pa_cons (C8.pe_c c__law_draw hr (by decide) (by rfl) (pa_cons (pv 0) (pa_cons (pe_callB (kcall_len_seq K) (by rfl) T.b_len (by decide +kernel) (pa_cons (pv 3) pa_nil)) pa_nil))) pa_nil)) pa_nil)))))
      (pss_one (ps_ret (pv 5))))))))), ?_⟩
  rw [show (L2.start ["purse", "amount", "place", "rising", "k", "rows"] [.ref b, .int n] : L2.St) = [some (.ref b), some (.int n), none, none, none, none] from rfl]
  try simp only [WL.cxK]
  walk_at "go"
  refine ⟨sz_le (n := 5) (by decide), fun pl npl => ?_⟩
  have B0 := hB.new (o := .lst [V.int 0, V.int 1, V.int 2, V.int (-20), V.int (10 ^ Int.toNat 30)]) npl
  have s0 := same_new (o := .lst [V.int 0, V.int 1, V.int 2, V.int (-20), V.int (10 ^ Int.toNat 30)]) npl
  have nplb := (hB.nb npl).1
  have hpl : (upd H pl (.lst [V.int 0, V.int 1, V.int 2, V.int (-20), V.int (10 ^ Int.toNat 30)])) pl = some (.lst [V.int 0, V.int 1, V.int 2, V.int (-20), V.int (10 ^ Int.toNat 30)]) := upd_same
  generalize upd H pl (.lst [V.int 0, V.int 1, V.int 2, V.int (-20), V.int (10 ^ Int.toNat 30)]) = H0 at *
  walk_at "go"
  refine g_draw B0 (by decide) (by decide) fun d H1 d0 d1 k1 B1 => ?_
  obtain ⟨pv, hpv⟩ : ∃ pv : Int, atI [V.int 0, V.int 1, V.int 2, V.int (-20), V.int (10 ^ Int.toNat 30)] d = some (.int pv) := by
    have : d = 0 ∨ d = 1 ∨ d = 2 ∨ d = 3 ∨ d = 4 := by omega
    rcases this with rfl | rfl | rfl | rfl | rfl
    · exact ⟨_, rfl⟩
    · exact ⟨_, rfl⟩
    · exact ⟨_, rfl⟩
    · exact ⟨_, rfl⟩
    · exact ⟨_, rfl⟩
  refine g_ixL (SqL.of (k1 _ _ hpl nplb)) hpv ?_
  walk_at "go"
  refine ⟨by decide, fun p np => ?_⟩
  walk_at "go"
  have npb := (B1.nb np).1
  have npc := (B1.nb np).2
  have k01 : Kp b H H1 := (Kp.same s0).trans k1
  have npH : H p = none := k01.free npb np
  refine f_rng1 (z := (n : Int)) (by omega) (by omega) (fun i σ' H' => ∃ (l : List Int) (z : Int) (y : Option V), σ' = [some (.ref b), some (.int n), some (.int z), some (.ref p), y, none] ∧ l.length = i ∧ (∀ x ∈ l, x < z) ∧ l.Nodup ∧ Kp b H H' ∧ Purse c b H' ∧ H' p = some (.lst (l.map V.int)))
    ⟨[], pv, none, rfl, rfl, (fun _ h => by cases h), List.nodup_nil, k01.new np, B1.new np, upd_same⟩ (fun i σ' H' hi hP => ?_) (fun σ' H' hP => ?_)
  · obtain ⟨l, z, y, rfl, hl, hlt, hnd, k2, B2, hp⟩ := hP
    walk_at "go"
    refine g_app hp (sz_lt (by rw [List.length_map]; omega)) ?_
    walk_at "go"
    refine g_draw (B2.put npb npc) (by decide) (by decide) fun d2 H3 e0 e1 k3 B3 => ?_
    walk_at "go"
    exact ⟨l ++ [z], z + 1 + d2, _, rfl, by simp [hl], fun x hx => by
      rcases List.mem_append.mp hx with hx | hx
      · have := hlt x hx; omega
      · rw [List.mem_singleton.mp hx]; omega, by
      rw [List.nodup_append]
      exact ⟨hnd, by simp, fun u hu v hv => by rw [List.mem_singleton.mp hv]; have := hlt u hu; omega⟩, (k2.mut npH).trans k3, B3, k3 _ _ (by rw [upd_same, List.map_append]; rfl) npb⟩
  obtain ⟨l, z, y, rfl, hl, hlt, hnd, k2, B2, hp⟩ := hP
  walk_at "go"
  refine g_draw B2 (by decide) (by decide) fun d2 H3 e0 e1 k3 B3 => ?_
  walk_at "go"
  refine g_iteI (fun e => ?_) (fun e => ?_)
  · walk_at "go"
    exact q p l H3 npH (k2.trans k3) B3 (k3 _ _ hp npb) (by omega) hnd
  walk_at "go"
  refine ⟨by decide, fun r nr => ?_⟩
  walk_at "go"
  have hp3 := k3 _ _ hp npb
  have nrb := (B3.nb nr).1
  have nrc := (B3.nb nr).2
  have npr : p ≠ r := ne_of_none hp3 nr
  have k03 := k2.trans k3
  have nrH : H r = none := k03.free nrb nr
  refine f_rng1 (z := (n : Int)) (by omega) (by omega) (fun i σ' H' => ∃ (l s : List Int) (y : Option V), σ' = [some (.ref b), some (.int n), some (.int z), some (.ref p), y, some (.ref r)] ∧ s.length = i ∧ l.length + i = n ∧ (s ++ l).Nodup ∧ Kp b H H' ∧ Purse c b H' ∧ H' p = some (.lst (l.map V.int)) ∧ H' r = some (.lst (s.map V.int)))
    ⟨l, [], _, rfl, rfl, by omega, hnd, k03.new nr, B3.new nr, by rw [upd_ne npr]; exact hp3, upd_same⟩ (fun i σ' H' hi hP => ?_) (fun σ' H' hP => ?_)
  · obtain ⟨l, s, y, rfl, hs, hl, hnd, k4, B4, hp, hr'⟩ := hP
    walk_at "go"
    rw [List.length_map]
    refine g_draw B4 (by omega) (by omega) fun d5 H5 f0 f1 k5 B5 => ?_
    have hd : d5.toNat < l.length := by omega
    refine ⟨p, _, d5, d5.toNat, .int l[d5.toNat], rfl, rfl, k5 _ _ hp npb, by omega, by omega, seqIndex_of f0 (by rw [List.length_map]; omega), by rw [List.getElem?_map, List.getElem?_eq_getElem hd]; rfl, ?_⟩
    walk_at "go"
    refine g_app (by rw [upd_ne npr.symm]; exact k5 _ _ hr' nrb) (sz_lt (by rw [List.length_map]; omega)) ?_
    walk_at "go"
    refine ⟨l.eraseIdx d5.toNat, s ++ [l[d5.toNat]], _, rfl, by simp [hs], by rw [List.length_eraseIdx, if_pos hd]; omega, ?_, ((k4.trans k5).mut npH).mut nrH, (B5.put npb npc).put nrb nrc, ?_, by rw [upd_same, List.map_append]; rfl⟩
    · have hperm : (s ++ l).Perm (s ++ [l[d5.toNat]] ++ l.eraseIdx d5.toNat) := by
        rw [List.append_assoc]
        exact List.Perm.append_left s (erase_perm hd)
      exact hperm.nodup_iff.mp hnd
    · rw [upd_ne npr, upd_same, map_erase]
  · obtain ⟨l, s, y, rfl, hs, hl, hnd, k4, B4, hp, hr'⟩ := hP
    walk_at "go"
    exact q r s _ nrH k4 B4 hr' (by omega) (List.nodup_append.mp hnd).1
end
end K05
set_option Elab.async false
set_option linter.all false
set_option maxRecDepth 100000
set_option maxHeartbeats 4000000
namespace K05
open PySem PySem.Spec PyProof.Rows L2
inductive Fam where
  | any (bits : List Int)
  | holds (sets : List (List Int))
  | weight (ws : List Int) (b : Int)
  | rest (ws : List Int) (m r : Int)
def FamOk (rs : List Int) : Fam → Prop
  | .any bits => bits.length = 32 ∧ rs.length ≤ 5
  | .holds sets => sets.length ≤ 10 ∧ ∀ s ∈ sets, s.length ≤ 41 ∧ ∀ x ∈ s, x ∈ rs
  | .weight ws _ => ws.length = rs.length ∧ ∀ w ∈ ws, 0 ≤ w
  | .rest ws m _ => ws.length = rs.length ∧ 0 < m
def here (rs : List Int) (m : Int → Bool) : List Nat := (List.range rs.length).filter fun k => m (rs.getD k 0)
def wsum (ws : List Int) (l : List Nat) : Int := (l.map fun k => ws.getD k 0).sum
def pr (rs : List Int) (fam : Fam) (m : Int → Bool) : Bool := match fam with
  | .any bits => decide (bits.getD ((here rs m).map (fun k => 2 ^ k)).sum 0 = 1)
  | .holds sets => sets.any fun one => one.all m
  | .weight ws b => decide (b ≤ wsum ws (here rs m))
  | .rest ws k r => decide (wsum ws (here rs m) % k < r)
def prF (rs : List Int) (fam : Fam) (m : Int → Bool) : Bool := decide ((here rs m).length = rs.length) || pr rs fam m
theorem here_congr {rs : List Int} {m m' : Int → Bool} (h : ∀ x ∈ rs, m x = m' x) : here rs m = here rs m' := by
  unfold here
  refine List.filter_congr fun k hk => ?_
  have hk := List.mem_range.mp hk
  refine h _ ?_
  rw [List.getD_eq_getElem?_getD, List.getElem?_eq_getElem hk]
  exact List.getElem_mem hk
theorem prF_congr {rs : List Int} {fam : Fam} {m m' : Int → Bool} (ok : FamOk rs fam) (h : ∀ x ∈ rs, m x = m' x) : prF rs fam m = prF rs fam m' := by
  unfold prF
  rw [here_congr h]
  refine congrArg (fun b => decide ((here rs m').length = rs.length) || b) ?_
  cases fam with
  | any bits => unfold pr; rw [here_congr h]
  | holds sets =>
    show (sets.any fun one => one.all m) = sets.any fun one => one.all m'
    have : ∀ s ∈ sets, s.all m = s.all m' := fun s hs => by
      have ha : ∀ l : List Int, (∀ x ∈ l, x ∈ rs) → l.all m = l.all m' := fun l => by
        induction l with
        | nil => intro _; rfl
        | cons a l ih =>
          intro hl
          rw [List.all_cons, List.all_cons, h a (hl a (List.mem_cons_self ..)), ih fun x hx => hl x (List.mem_cons_of_mem _ hx)]
      exact ha s (ok.2 s hs).2
    clear ok
    induction sets with
    | nil => rfl
    | cons a l ih => rw [List.any_cons, List.any_cons, this a (List.mem_cons_self ..), ih fun s hs => this s (List.mem_cons_of_mem _ hs)]
  | weight ws b => unfold pr; rw [here_congr h]
  | rest ws k r => unfold pr; rw [here_congr h]
/-- the sum over the places below 5 -/
theorem pow_sum (ok : Nat → Bool) : ∀ n : Nat, (((List.range n).filter ok).map (fun k => 2 ^ k)).sum < 2 ^ n
  | 0 => by simp
  | n + 1 => by
    rw [List.range_succ, List.filter_append, List.map_append, List.sum_append]
    have ih := pow_sum ok n
    have hle : (([n].filter ok).map (fun k => 2 ^ k)).sum ≤ 2 ^ n := by
      cases h : ok n <;> simp [h]
    rw [Nat.pow_succ]; omega
theorem here_pow {rs : List Int} {m : Int → Bool} (h : rs.length ≤ 5) : ((here rs m).map (fun k => 2 ^ k)).sum < 32 := by
  have h1 : ((here rs m).map (fun k => 2 ^ k)).sum < 2 ^ rs.length := pow_sum _ _
  have h2 : 2 ^ rs.length ≤ 2 ^ 5 := Nat.pow_le_pow_right (by decide) h
  exact Nat.lt_of_lt_of_le h1 h2
theorem here_lt {rs : List Int} {m : Int → Bool} {k : Nat} (h : k ∈ here rs m) : k < rs.length := List.mem_range.mp (List.mem_filter.mp h).1
/-! ### the greedy leaving out -/
def mn (m : Int → Bool) (r : Int) : Int → Bool := fun x => m x && decide (x ≠ r)
def gr (rs : List Int) (fam : Fam) : List Int → (Int → Bool) → (Int → Bool)
  | [], m => m
  | r :: t, m => if prF rs fam (mn m r) = true then gr rs fam t (mn m r) else gr rs fam t m
def le (m m' : Int → Bool) : Prop := ∀ x, m x = true → m' x = true
theorem mn_le (m : Int → Bool) (r : Int) : le (mn m r) m := fun x h => by
  unfold mn at h
  rw [Bool.and_eq_true] at h; exact h.1
theorem gr_le (rs : List Int) (fam : Fam) : ∀ t m, le (gr rs fam t m) m
  | [], m => fun _ h => h
  | r :: t, m => fun x h => by
    unfold gr at h
    split at h
    · exact mn_le m r x (gr_le rs fam t _ x h)
    · exact gr_le rs fam t _ x h
theorem gr_snoc (rs : List Int) (fam : Fam) (r : Int) : ∀ t m, gr rs fam (t ++ [r]) m = if prF rs fam (mn (gr rs fam t m) r) = true then mn (gr rs fam t m) r else gr rs fam t m
  | [], m => by
    show gr rs fam [r] m = _
    unfold gr
    rfl
  | a :: t, m => by
    show gr rs fam (a :: (t ++ [r])) m = _
    unfold gr
    split
    · exact gr_snoc rs fam r t _
    · exact gr_snoc rs fam r t _
theorem filt_len {ok ok' : Nat → Bool} (h : ∀ k, ok k = true → ok' k = true) : ∀ l : List Nat, (l.filter ok).length ≤ (l.filter ok').length
  | [] => Nat.le_refl _
  | a :: l => by
    have ih := filt_len h l
    rw [List.filter_cons, List.filter_cons]
    cases e : ok a with
    | true => rw [h a e]; simp; exact ih
    | false =>
      cases e' : ok' a with
      | true => simp; omega
      | false => simpa using ih
theorem filt_sum {ws : List Int} (hw : ∀ w ∈ ws, 0 ≤ w) {ok ok' : Nat → Bool} (h : ∀ k, ok k = true → ok' k = true) : ∀ l : List Nat, wsum ws (l.filter ok) ≤ wsum ws (l.filter ok')
  | [] => Int.le_refl _
  | a :: l => by
    have ih := filt_sum hw h l
    have pos : 0 ≤ ws.getD a 0 := by
      rw [List.getD_eq_getElem?_getD]
      cases e : ws[a]? with
      | none => exact Int.le_refl _
      | some w => exact hw w (List.mem_of_getElem? e)
    rw [List.filter_cons, List.filter_cons]
    unfold wsum at ih ⊢
    cases e : ok a with
    | true => rw [h a e]; simp only [if_true, List.map_cons, List.sum_cons]; omega
    | false =>
      cases e' : ok' a with
      | true =>
        rw [if_pos rfl, if_neg (by decide), List.map_cons, List.sum_cons]; omega
      | false => simpa using ih
theorem all_le {m m' : Int → Bool} (h : le m m') {l : List Int} (a : l.all m = true) : l.all m' = true := by
  rw [List.all_eq_true] at a ⊢
  exact fun x hx => h x (a x hx)
def Mono : Fam → Prop
  | .holds _ => True
  | .weight _ _ => True
  | _ => False
theorem prF_mono {rs : List Int} {fam : Fam} (ok : FamOk rs fam) (mo : Mono fam) {m m' : Int → Bool} (h : le m m') (hp : prF rs fam m = true) : prF rs fam m' = true := by
  unfold prF at hp ⊢
  rw [Bool.or_eq_true] at hp ⊢
  rcases hp with hp | hp
  · left
    have e : (here rs m).length = rs.length := of_decide_eq_true hp
    have h1 : (here rs m).length ≤ (here rs m').length := filt_len (fun k hk => h _ hk) _
    have h2 : (here rs m').length ≤ rs.length := by
      have := List.length_filter_le (fun k => m' (rs.getD k 0)) (List.range rs.length)
      rw [List.length_range] at this; exact this
    exact decide_eq_true (by omega)
  · right
    cases fam with
    | any bits => exact mo.elim
    | holds sets =>
      have hp : (sets.any fun one => one.all m) = true := hp
      show (sets.any fun one => one.all m') = true
      rw [List.any_eq_true] at hp ⊢
      obtain ⟨s, hs, ha⟩ := hp
      exact ⟨s, hs, all_le h ha⟩
    | weight ws b =>
      have hp : decide (b ≤ wsum ws (here rs m)) = true := hp
      show decide (b ≤ wsum ws (here rs m')) = true
      have e := of_decide_eq_true hp
      have := filt_sum ok.2 (ok := fun k => m (rs.getD k 0)) (ok' := fun k => m' (rs.getD k 0)) (fun k hk => h _ hk) (List.range rs.length)
      exact decide_eq_true (Int.le_trans e this)
    | rest ws k r => exact mo.elim
theorem gr_min {rs : List Int} {fam : Fam} (ok : FamOk rs fam) (mo : Mono fam) : ∀ t m r, r ∈ t → gr rs fam t m r = true → prF rs fam (mn (gr rs fam t m) r) = false
  | [], m, r, h, _ => by cases h
  | a :: t, m, r, h, hr => by
    unfold gr at hr ⊢
    by_cases hc : prF rs fam (mn m a) = true
    · rw [if_pos hc] at hr ⊢
      rcases List.mem_cons.mp h with rfl | h
      · have h1 := gr_le rs fam t _ _ hr
        unfold mn at h1
        simp at h1
      · exact gr_min ok mo t _ r h hr
    · rw [if_neg hc] at hr ⊢
      rcases List.mem_cons.mp h with rfl | h
      · cases e : prF rs fam (mn (gr rs fam t m) r) with
        | false => rfl
        | true =>
          exact absurd (prF_mono ok mo (m := mn (gr rs fam t m) r) (m' := mn m r) (fun x hx => by
            unfold mn at hx ⊢
            rw [Bool.and_eq_true] at hx ⊢
            exact ⟨gr_le rs fam t m x hx.1, hx.2⟩) e) hc
      · exact gr_min ok mo t _ r h hr
theorem filt_mn (l : List Int) (m : Int → Bool) (r : Int) : (l.filter m).filter (fun x => decide (x ≠ r)) = l.filter (mn m r) := by
  rw [List.filter_filter]
  refine List.filter_congr fun x _ => ?_
  unfold mn
  rw [Bool.and_comm]
theorem sorted_uniq : ∀ {a b : List Int}, a.Perm b → a.Pairwise (· ≤ ·) → b.Pairwise (· ≤ ·) → a = b
  | [], b, h, _, _ => (List.Perm.nil_eq h)
  | x :: a, [], h, _, _ => by have := h.length_eq; simp at this
  | x :: a, y :: b, h, ha, hb => by
    have hxy : x = y := by
      have h1 : x ∈ y :: b := h.subset (List.mem_cons_self ..)
      have h2 : y ∈ x :: a := h.symm.subset (List.mem_cons_self ..)
      have hx : y ≤ x := by
        rcases List.mem_cons.mp h1 with e | e
        · omega
        · exact (List.pairwise_cons.mp hb).1 x e
      have hy : x ≤ y := by
        rcases List.mem_cons.mp h2 with e | e
        · omega
        · exact (List.pairwise_cons.mp ha).1 y e
      omega
    subst hxy
    rw [sorted_uniq (List.Perm.cons_inv h) (List.pairwise_cons.mp ha).2 (List.pairwise_cons.mp hb).2]
theorem inV_ints {z : Int} : ∀ {l : List Int}, inV (.int z) (l.map V.int) = decide (z ∈ l)
  | [] => rfl
  | x :: l => by
    have ih := inV_ints (z := z) (l := l)
    unfold inV at ih ⊢
    rw [List.map_cons, List.any_cons, ih]
    show ((x == z) || decide (z ∈ l)) = _
    by_cases h : x = z
    · subst h; simp
    · have hne : ¬ z = x := fun e => h e.symm
      simp [h, hne]
theorem flat_ints : ∀ {l : List Int}, (l.map V.int).all flatV = true
  | [] => rfl
  | x :: l => by rw [List.map_cons, List.all_cons, flat_ints]; rfl
theorem g_inI {H : Hp} {Q : VK} {K : PySem.W.Frag} {p : Addr} {z : Int} {l : List Int} (h : SqL K H p (l.map V.int)) (q : Q (.bl (decide (z ∈ l))) H) : rIn K false (.int z) (.ref p) H Q := by
  refine ⟨p, _, rfl, .inl h, rfl, flat_ints, ?_⟩
  rw [inV_ints]; exact q
end K05
set_option Elab.async false
set_option linter.all false
set_option maxRecDepth 100000
set_option maxHeartbeats 4000000
namespace K05
open PySem PySem.Spec PyProof.Rows L2 WL
local macro_rules | `(tactic| walk_at "lk") => `(tactic| first
  | exact upd_same
  | assumption
  | (rw [upd_ne (by assumption)]; first | exact upd_same | assumption | (rw [upd_ne (by assumption)]; first | exact upd_same | assumption | (rw [upd_ne (by assumption)]; first | exact upd_same | assumption))))
local macro_rules | `(tactic| walk_at "go1") => `(tactic| first
  | (with_reducible refine g_seq ?_)
  | (with_reducible refine g_asg ?_)
  | (with_reducible refine g_name ?_)
  | (with_reducible refine g_sub ?_)
  | ((with_reducible refine' g_var ?gv ?_); (case gv => exact rfl))
  | (with_reducible refine g_c ?_)
  | (with_reducible refine g_op ?_)
  | (with_reducible refine g_un ?_)
  | (with_reducible refine g_I0 ?_)
  | ((with_reducible refine g_I ?gc ?_); (case gc => first | assumption | decide | (show (0 : Int) < _; omega) | exact Or.inr ⟨by omega, by omega⟩ | exact Or.inl ⟨by omega, by omega⟩ | exact ⟨by omega, by omega⟩))
  | (with_reducible refine iteT ?_)
  | (with_reducible refine iteF ?_)
  | (with_reducible refine iteNT ?_)
  | (with_reducible refine iteNF ?_)
  | (with_reducible refine g_andV ?_)
  | (with_reducible refine g_orV ?_)
  | ((with_reducible refine' g_lenS (by assumption) ?_))
  | ((with_reducible refine' g_lenS (SqL.of (by walk_at "lk")) ?_))
  | (with_reducible refine g_U ?_)
  | ((with_reducible refine g_eq ?gs ?_); (case gs => rfl))
  | ((with_reducible refine g_ne ?gs ?_); (case gs => rfl))
  | (with_reducible refine g_drop ?_)
  | (with_reducible refine g_ret ?_)
  | (with_reducible refine g_next ?_)
  | (with_reducible refine g_ifS ?_)
  | (with_reducible refine g_ifE ?_)
  | (with_reducible refine g_test ?_)
  | (with_reducible refine g_tb ?_)
  | (with_reducible refine g_bl ?_)
  | (with_reducible refine g_not ?_)
  | (with_reducible refine g_and ?_)
  | (with_reducible refine g_or ?_)
  | (with_reducible refine g_nil ?_)
  | (with_reducible refine g_cons ?_)
  | (with_reducible refine g_cb ?_)
  | (with_reducible refine g_call ?_)
  | (with_reducible refine g_int ?_)
  | (with_reducible refine g_two ?_)
  | ((with_reducible refine g_lenStr ?gz ?_); (case gz => first | assumption | exact sz_le (by omega)))
  | (with_reducible refine g_m1 ?_)
  | (with_reducible refine g_isS ?_)
  | (with_reducible refine g_nn ?_)
  | (with_reducible refine g_yes ?_)
  | (with_reducible refine g_for ?_)
  | (with_reducible refine g_ckw ?_)
  | (with_reducible refine g_iZip ?_)
  | (with_reducible refine g_lc ?_)
  | (with_reducible refine g_lc2 ?_)
  | (with_reducible refine g_iList ?_)
  | (with_reducible refine g_iRng1 ?_)
  | (with_reducible refine g_iRng2 ?_)
  | (with_reducible refine g_sl ?_)
  | (with_reducible refine g_noPart ?_)
  | (with_reducible refine g_part ?_)
  | (with_reducible refine g_ex1 ?_)
  | (with_reducible refine g_bm ?_)
  | ((with_reducible refine' g_tyL (by walk_at "lk") ?_))
  | ((with_reducible refine' g_aug ?gv ?_); (case gv => exact rfl))
  | (with_reducible refine g_ipI ?_)
  | (with_reducible refine g_turn ?_)
  | (with_reducible refine g_brk ?_)
  | (with_reducible refine g_cont ?_)
  | (with_reducible refine g_sign ?_)
  | (with_reducible refine g_lst ?_)
  | (with_reducible refine g_tup ?_)
  | ((with_reducible refine' g_ixL (by assumption) ?ga ?_); (case ga => assumption))
  | ((with_reducible refine' g_ixL (SqL.of (by walk_at "lk")) ?ga ?_); (case ga => first | exact rfl | assumption))
  | ((with_reducible refine' g_ixT (SqT.of (by walk_at "lk")) ?ga ?_); (case ga => first | exact rfl | assumption))
  | ((with_reducible refine' g_lenT (SqT.of (by walk_at "lk")) ?_))
  | ((with_reducible refine' g_isiS (b := true) ?ga ?_); (case ga => decide +kernel))
  | ((with_reducible refine' g_isiS (b := false) ?ga ?_); (case ga => decide +kernel))
  | ((with_reducible refine' g_isiI (b := true) ?ga ?_); (case ga => decide +kernel))
  | ((with_reducible refine' g_isiI (b := false) ?ga ?_); (case ga => decide +kernel))
  | ((with_reducible refine' g_setL2 ?ga ?gb ?_); (case ga => exact rfl); (case gb => exact rfl))
  | ((with_reducible refine' g_setL (by walk_at "lk") ?ga ?gb ?_); (case ga => exact rfl); (case gb => exact rfl)))
local macro_rules | `(tactic| walk_at "go") => `(tactic| ((repeat walk_at "go1"); try dsimp only [List.set, List.cons_append, List.nil_append]))
def FamAt (H : Hp) (f : Addr) : Fam → Prop
  | .any bits => ∃ q, H f = some (.lst [.str (Str.ofString "any"), .ref q]) ∧ H q = some (.lst (bits.map V.int))
  | .holds sets => ∃ (q : Addr) (ps : List (Addr × List Int)), H f = some (.lst [.str (Str.ofString "holds"), .ref q]) ∧ H q = some (.lst (ps.map fun r => V.ref r.1)) ∧ ps.map (·.2) = sets ∧ ∀ r ∈ ps, H r.1 = some (.lst (r.2.map V.int))
  | .weight ws b => ∃ q, H f = some (.lst [.str (Str.ofString "weight"), .ref q, .int b]) ∧ H q = some (.lst (ws.map V.int))
  | .rest ws m r => ∃ q, H f = some (.lst [.str (Str.ofString "rest"), .ref q, .int m, .int r]) ∧ H q = some (.lst (ws.map V.int))
theorem FamAt.keepL {H H' : Hp} {f : Addr} {fam : Fam} (h : FamAt H f fam) (k : ∀ a xs, H a = some (.lst xs) → H' a = some (.lst xs)) : FamAt H' f fam := by
  cases fam with
  | any bits => obtain ⟨q, a, b⟩ := h; exact ⟨q, k _ _ a, k _ _ b⟩
  | holds sets => obtain ⟨q, ps, a, b, c, d⟩ := h; exact ⟨q, ps, k _ _ a, k _ _ b, c, fun r hr => k _ _ (d r hr)⟩
  | weight ws b => obtain ⟨q, a, b⟩ := h; exact ⟨q, k _ _ a, k _ _ b⟩
  | rest ws m r => obtain ⟨q, a, b⟩ := h; exact ⟨q, k _ _ a, k _ _ b⟩
theorem FamAt.keep {H H' : Hp} {f : Addr} {fam : Fam} (h : FamAt H f fam) (k : ∀ a o, H a = some o → H' a = some o) : FamAt H' f fam := h.keepL fun a _ e => k a _ e
def spFamily (K : PySem.W.Frag) : Sp := fun vs H Q _ => ∃ (b c ra : Addr) (rs : List Int) (way : Nat), vs = [.ref b, .ref ra, .int way] ∧ Purse c b H ∧ H ra = some (.lst (rs.map V.int)) ∧ ra ≠ b ∧ rs.length ≤ 41 ∧ (way = 0 → rs.length ≤ 5) ∧ ∀ f fam H', Kp b H H' → FamAt H' f fam → FamOk rs fam → Q (.ref f) H'
section
variable {P : Program} {w : World} {K : PySem.W.Frag} {mg : Str → Option Value} {base : Heap} {dA : Nat → Addr}
theorem ok__law_family (T : Txt K mg dA) (c__law_draw : C8.Cal P w K mg base 1 "_law_draw" spDraw []) {f : Addr} {fd : FuncData} (F : Fun K "_law_family" "_law_family" s__law_family f fd) : FnOk P w K mg base CX0 2 f fd ["purse", "rows", "way"] (spFamily K) := by
  refine F.ok sc__law_family (fun vs H Q E h => ?_) (fun cdv A outer s H vs Q E hr h => ?_)
  · obtain ⟨b, c, ra, rs, way, rfl, _⟩ := h
    rfl
  obtain ⟨b, c, ra, rs, way, rfl, hB, hra, nrab, hrs, hw0, q⟩ := h
  refine ⟨_, (pss_cons (ps_if (pt_cmpR op_eq (pv 2) pe_int (nomark _)) (pss_one (ps_ret (pe_lst (pa_cons pe_str (pa_cons (pe_lc (own := [("k", 5)]) rfl sc__law_family.nd (pi_range1 (by rfl) T.b_range (pa_cons pe_int pa_nil)) (blkOk_by (own := [("k", 5)]) (N := ["purse", "rows", "way", "weights", "sets", "k", "share", "row"]) (sc := defScope s__law_family) (by decide +kernel)) (fun _ _ _ _ _ => (pg_name (i := 5) sc__law_family.nd rfl (.inl rfl))) (fun _ _ _ _ _ => pts_nil) (fun _ _ _ _ _ => (C8.pe_c c__law_draw hr (by decide) (by rfl) (pa_cons (pv 0) (pa_cons pe_int pa_nil))))) pa_nil))))) pss_nil)
      (pss_cons (ps_setLc (i := 3) (own := [("k", 5)]) rfl sc__law_family.nd rfl rfl (sw_true rfl rfl rfl (by decide +kernel)) (pi_range1 (by rfl) T.b_range (pa_cons (pe_callB (kcall_len_seq K) (by rfl) T.b_len (by decide +kernel) (pa_cons (pv 1) pa_nil)) pa_nil)) (blkOk_by (own := [("k", 5)]) (N := ["purse", "rows", "way", "weights", "sets", "k", "share", "row"]) (sc := defScope s__law_family) (by decide +kernel)) (fun _ _ _ _ _ => (pg_name (i := 5) sc__law_family.nd rfl (.inl rfl))) (fun _ _ _ _ _ => pts_nil) (fun _ _ _ _ _ => (C8.pe_c c__law_draw hr (by decide) (by rfl) (pa_cons (pv 0) (pa_cons pe_int pa_nil)))))
      (pss_cons (ps_if (pt_cmpR op_eq (pv 2) pe_int (nomark _)) (pss_cons (ps_set (i := 4) sc__law_family.nd rfl (.inl rfl) (pe_lst pa_nil))
      (pss_cons (ps_for PassesOwn.never rfl (pi_range1 (by rfl) T.b_range (pa_cons (pe_op op_add pe_int (C8.pe_c c__law_draw hr (by decide) (by rfl) (pa_cons (pv 0) (pa_cons pe_int pa_nil)))) pa_nil)) (pg_name (i := 5) sc__law_family.nd rfl (.inl rfl)) (pss_cons (ps_set (i := 6) sc__law_family.nd rfl (.inr rfl) (pe_op op_add pe_int (C8.pe_c c__law_draw hr (by decide) (by rfl) (pa_cons (pv 0) (pa_cons pe_int pa_nil)))))
      (pss_one (ps_expr (kpe_bm K PySem.F.plainAttrs_list PySem.F.slot_list_append PySem.F.type_list_append mt_append (pv 4) (pa_cons (pe_lc (own := [("row", 7)]) rfl sc__law_family.nd (kpi_list K (pv 1)) (blkOk_by (own := [("row", 7)]) (N := ["purse", "rows", "way", "weights", "sets", "k", "share", "row"]) (sc := defScope s__law_family) (by decide +kernel)) (fun _ _ _ _ _ => (pg_name (i := 7) sc__law_family.nd rfl (.inl rfl))) (fun _ _ _ _ _ => (pts_one (pt_cmpR op_eq (C8.pe_c c__law_draw hr (by decide) (by rfl) (pa_cons (pv 0) (pa_cons (pv 6) pa_nil))) pe_int (nomark _)))) (fun _ _ _ _ _ => (pv 7))) pa_nil))))))
      (pss_one (ps_ret (pe_lst (pa_cons pe_str (pa_cons (pv 4) pa_nil))))))) pss_nil)
      (pss_cons (ps_if (pt_cmpR op_eq (pv 2) pe_int (nomark _)) (pss_one (ps_ret (pe_lst (pa_cons pe_str (pa_cons (pv 3) (pa_cons (C8.pe_c c__law_draw hr (by decide) (by rfl) (pa_cons (pv 0) (pa_cons (pe_op op_add (pe_callB (kcr_sum K) (by rfl) T.b_sum (by decide +kernel) (pa_cons (pv 3) pa_nil)) pe_int) pa_nil))) pa_nil)))))) pss_nil)
      (pss_one (ps_ret (pe_lst (pa_cons pe_str (pa_cons (pv 3) (pa_cons (pe_op op_add pe_int (C8.pe_c c__law_draw hr (by decide) (by rfl) (pa_cons (pv 0) (pa_cons pe_int pa_nil)))) (pa_cons (pe_op op_add pe_int (C8.pe_c c__law_draw hr (by decide) (by rfl) (pa_cons (pv 0) (pa_cons pe_int pa_nil)))) pa_nil))))))))))), ?_⟩
  rw [show (L2.start ["purse", "rows", "way", "weights", "sets", "k", "share", "row"] [.ref b, .ref ra, .int way] : L2.St) = [some (.ref b), some (.ref ra), some (.int way), none, none, none, none, none] from rfl]
  try simp only [WL.cxK]
  walk_at "go"
  refine g_iteI (fun e0 => ?_) (fun e0 => ?_)
  · walk_at "go"
    refine f_lcR (by omega) (by omega) (fun D i H' => ∃ l : List Int, l.length = i ∧ H' D = some (.lst (l.map V.int)) ∧ Kp b H H' ∧ Purse c b H')
      (fun D nD => ⟨[], rfl, upd_same, (Kp.refl H).new nD, hB.new nD⟩) (fun D i H' nD hi hP => ?_) (fun D H' nD hP => ?_)
    · obtain ⟨l, hl, hD, k1, B1⟩ := hP
      refine g_name ⟨rfl, ?_⟩
      walk_at "go"
      refine g_draw B1 (by decide) (by decide) fun d H2 d0 d1 k2 B2 => ?_
      have nDb := (hB.nb nD).1
      have nDc := (hB.nb nD).2
      exact ⟨_, k2 _ _ hD nDb, sz_lt (by rw [List.length_map]; omega), l ++ [d], by simp [hl], by rw [upd_same, List.map_append]; rfl, (k1.trans k2).mut nD, B2.put nDb nDc⟩
    · obtain ⟨l, hl, hD, k1, B1⟩ := hP
      refine ⟨sz_le (n := 2) (by decide), fun f nf => ?_⟩
      exact q f (.any l) _ (k1.new nf) ⟨D, upd_same, by rw [upd_ne (ne_of_none hD nf)]; exact hD⟩ ⟨by omega, hw0 (by omega)⟩
  walk_at "go"
  rw [List.length_map]
  refine f_lcR (by omega) (by omega) (fun D i H' => ∃ l : List Int, l.length = i ∧ (∀ w ∈ l, 0 ≤ w ∧ w ≤ 4) ∧ H' D = some (.lst (l.map V.int)) ∧ Kp b H H' ∧ Purse c b H')
    (fun D nD => ⟨[], rfl, (fun _ h => by cases h), upd_same, (Kp.refl H).new nD, hB.new nD⟩) (fun D i H' nD hi hP => ?_) (fun W H1 nW hP => ?_)
  · obtain ⟨l, hl, hlw, hD, k1, B1⟩ := hP
    refine g_name ⟨rfl, ?_⟩
    walk_at "go"
    refine g_draw B1 (by decide) (by decide) fun d H2 d0 d1 k2 B2 => ?_
    have nDb := (hB.nb nD).1
    have nDc := (hB.nb nD).2
    exact ⟨_, k2 _ _ hD nDb, sz_lt (by rw [List.length_map]; omega), l ++ [d], by simp [hl], fun u hu => by
      rcases List.mem_append.mp hu with hu | hu
      · exact hlw u hu
      · rw [List.mem_singleton.mp hu]; omega, by rw [upd_same, List.map_append]; rfl, (k1.trans k2).mut nD, B2.put nDb nDc⟩
  obtain ⟨ws, hwl, hww, hW, k1, B1⟩ := hP
  have nWb := (hB.nb nW).1
  have hra1 := k1 _ _ hra nrab
  have hws : 0 ≤ ws.sum ∧ ws.sum ≤ 4 * ws.length := by
    clear hwl hW
    induction ws with
    | nil => decide
    | cons a l ih =>
      have := hww a (List.mem_cons_self ..)
      have ih := ih fun w hw => hww w (List.mem_cons_of_mem _ hw)
      rw [List.sum_cons, List.length_cons]; omega
  walk_at "go"
  refine g_iteI (fun e1 => ?_) (fun e1 => ?_)
  · walk_at "go"
    refine ⟨by decide, fun sp nsp => ?_⟩
    walk_at "go"
    have nspb := (B1.nb nsp).1
    have nspc := (B1.nb nsp).2
    refine g_draw (B1.new nsp) (by decide) (by decide) fun d H2 d0 d1 k2 B2 => ?_
    walk_at "go"
    have nspH : H sp = none := k1.free nspb nsp
    refine f_rng1 (by omega) (by omega) (fun i σ' H' => ∃ (ps : List (Addr × List Int)) (y z : Option V), σ' = [some (.ref b), some (.ref ra), some (.int way), some (.ref W), some (.ref sp), y, z, none] ∧ ps.length = i ∧ H' sp = some (.lst (ps.map fun r => V.ref r.1)) ∧ (∀ r ∈ ps, H' r.1 = some (.lst (r.2.map V.int)) ∧ r.1 ≠ sp ∧ r.1 ≠ b ∧ r.2.length ≤ 41 ∧ ∀ x ∈ r.2, x ∈ rs) ∧ Kp b H H' ∧ Purse c b H')
      ⟨[], none, none, rfl, rfl, k2 _ _ upd_same nspb, (fun _ h => by cases h), (k1.new nsp).trans k2, B2⟩ (fun i σ' H' hi hP => ?_) (fun σ' H' hP => ?_)
    · obtain ⟨ps, y, z, rfl, hpl, hsp, hrow, k3, B3⟩ := hP
      walk_at "go"
      refine g_draw B3 (by decide) (by decide) fun d3 H3 f0 f1 k4 B4 => ?_
      walk_at "go"
      have hsp3 := k4 _ _ hsp nspb
      have k34 := k3.trans k4
      have hra3 := k34 _ _ hra nrab
      walk_at "go"
      refine f_lcL (SqL.of hra3) (fun D i H' => ∃ l : List Int, l.length ≤ i ∧ (∀ x ∈ l, x ∈ rs) ∧ H' D = some (.lst (l.map V.int)) ∧ Kp b H3 H' ∧ Purse c b H')
        (fun D nD => ⟨[], Nat.le_refl _, (fun _ h => by cases h), upd_same, (Kp.refl H3).new nD, B4.new nD⟩) (fun D i H' nD _ ⟨_, _, _, _, k, _⟩ => SqL.of (k _ _ hra3 nrab)) (fun D i x H' nD hx hP => ?_) (fun D H' nD hP => ?_)
      · obtain ⟨l, hl, hlm, hD, k5, B5⟩ := hP
        obtain ⟨n, hn, rfl⟩ := map_at hx
        have hin := lt_at hn
        have nDb := (B4.nb nD).1
        have nDc := (B4.nb nD).2
        refine g_name ⟨rfl, ?_⟩
        walk_at "go"
        refine g_draw B5 (by omega) (by omega) fun d6 H6 g0 g1 k6 B6 => ?_
        have hD6 := k6 _ _ hD nDb
        walk_at "go"
        refine g_iteI (fun e7 => ?_) (fun e7 => ?_)
        · walk_at "go"
          exact ⟨_, hD6, sz_lt (by rw [List.length_map]; omega), l ++ [n], by simp; omega, fun u hu => by
            rcases List.mem_append.mp hu with hu | hu
            · exact hlm u hu
            · rw [List.mem_singleton.mp hu]; exact List.mem_of_getElem? hn, by rw [upd_same, List.map_append]; rfl, (k5.trans k6).mut nD, B6.put nDb nDc⟩
        · exact ⟨l, by omega, hlm, hD6, k5.trans k6, B6⟩
      · obtain ⟨l, hl, hlm, hD, k5, B5⟩ := hP
        rw [List.length_map] at hl
        have hsp4 := k5 _ _ hsp3 nspb
        have nDsp : D ≠ sp := (ne_of_none hsp3 nD).symm
        walk_at "go"
        refine g_app hsp4 (sz_lt (by rw [List.length_map]; omega)) ?_
        walk_at "go"
        refine ⟨ps ++ [(D, l)], _, _, rfl, by simp [hpl], by rw [upd_same, List.map_append]; rfl, fun r hr => ?_, (k34.trans k5).mut nspH, B5.put nspb nspc⟩
        rcases List.mem_append.mp hr with hr | hr
        · obtain ⟨h1, h2, h3, h4, h5⟩ := hrow r hr
          exact ⟨by rw [upd_ne h2]; exact k5 _ _ (k4 _ _ h1 h3) h3, h2, h3, h4, h5⟩
        · rw [List.mem_singleton.mp hr]
          exact ⟨by rw [upd_ne nDsp]; exact hD, nDsp, (B4.nb nD).1, show l.length ≤ 41 by omega, hlm⟩
    · obtain ⟨ps, y, z, rfl, hpl, hsp, hrow, k3, B3⟩ := hP
      walk_at "go"
      refine ⟨sz_le (n := 2) (by decide), fun f nf => ?_⟩
      refine q f (.holds (ps.map (·.2))) _ (k3.new nf) ⟨sp, ps, upd_same, by rw [upd_ne (ne_of_none hsp nf)]; exact hsp, rfl, fun r hr => by rw [upd_ne (ne_of_none (hrow r hr).1 nf)]; exact (hrow r hr).1⟩ ⟨by rw [List.length_map]; omega, fun s hs => ?_⟩
      obtain ⟨r, hr, rfl⟩ := List.mem_map.mp hs
      exact (hrow r hr).2.2.2
  walk_at "go"
  refine g_iteI (fun e2 => ?_) (fun e2 => ?_)
  · walk_at "go"
    refine ⟨W, ws, rfl, SqL.of hW, ?_⟩
    walk_at "go"
    refine g_draw B1 (by omega) (by omega) fun d2 H2 f0 f1 k2 B2 => ?_
    walk_at "go"
    refine ⟨sz_le (n := 3) (by decide), fun f nf => ?_⟩
    have hW2 := k2 _ _ hW nWb
    exact q f (.weight ws d2) _ ((k1.trans k2).new nf) ⟨W, upd_same, by rw [upd_ne (ne_of_none hW2 nf)]; exact hW2⟩ ⟨by omega, fun w hw => (hww w hw).1⟩
  walk_at "go"
  refine g_draw B1 (by decide) (by decide) fun d2 H2 f0 f1 k2 B2 => ?_
  walk_at "go"
  refine g_draw B2 (by decide) (by decide) fun d3 H3 g0 g1 k3 B3 => ?_
  walk_at "go"
  refine ⟨sz_le (n := 4) (by decide), fun f nf => ?_⟩
  have hW3 := k3 _ _ (k2 _ _ hW nWb) nWb
  exact q f (.rest ws (2 + d2) (1 + d3)) _ (((k1.trans k2).trans k3).new nf) ⟨W, upd_same, by rw [upd_ne (ne_of_none hW3 nf)]; exact hW3⟩ ⟨by omega, by omega⟩
end
end K05
set_option Elab.async false
set_option linter.all false
set_option maxRecDepth 100000
set_option maxHeartbeats 4000000
namespace K05
open PySem PySem.Spec PyProof.Rows L2 WL
local macro_rules | `(tactic| walk_at "lk") => `(tactic| first
  | exact upd_same
  | assumption
  | (rw [upd_ne (by assumption)]; first | exact upd_same | assumption | (rw [upd_ne (by assumption)]; first | exact upd_same | assumption | (rw [upd_ne (by assumption)]; first | exact upd_same | assumption))))
local macro_rules | `(tactic| walk_at "go1") => `(tactic| first
  | (with_reducible refine g_seq ?_)
  | (with_reducible refine g_asg ?_)
  | (with_reducible refine g_name ?_)
  | (with_reducible refine g_sub ?_)
  | ((with_reducible refine' g_var ?gv ?_); (case gv => exact rfl))
  | (with_reducible refine g_c ?_)
  | (with_reducible refine g_op ?_)
  | (with_reducible refine g_un ?_)
  | (with_reducible refine g_I0 ?_)
  | ((with_reducible refine g_I ?gc ?_); (case gc => first | assumption | decide | (show (0 : Int) < _; omega) | exact Or.inr ⟨by omega, by omega⟩ | exact Or.inl ⟨by omega, by omega⟩ | exact ⟨by omega, by omega⟩))
  | (with_reducible refine iteT ?_)
  | (with_reducible refine iteF ?_)
  | (with_reducible refine iteNT ?_)
  | (with_reducible refine iteNF ?_)
  | (with_reducible refine g_andV ?_)
  | (with_reducible refine g_orV ?_)
  | ((with_reducible refine' g_lenS (by assumption) ?_))
  | ((with_reducible refine' g_lenS (SqL.of (by walk_at "lk")) ?_))
  | (with_reducible refine g_U ?_)
  | ((with_reducible refine g_eq ?gs ?_); (case gs => rfl))
  | ((with_reducible refine g_ne ?gs ?_); (case gs => rfl))
  | (with_reducible refine g_drop ?_)
  | (with_reducible refine g_ret ?_)
  | (with_reducible refine g_next ?_)
  | (with_reducible refine g_ifS ?_)
  | (with_reducible refine g_ifE ?_)
  | (with_reducible refine g_test ?_)
  | (with_reducible refine g_tb ?_)
  | (with_reducible refine g_bl ?_)
  | (with_reducible refine g_not ?_)
  | (with_reducible refine g_and ?_)
  | (with_reducible refine g_or ?_)
  | (with_reducible refine g_nil ?_)
  | (with_reducible refine g_cons ?_)
  | (with_reducible refine g_cb ?_)
  | (with_reducible refine g_call ?_)
  | (with_reducible refine g_int ?_)
  | (with_reducible refine g_two ?_)
  | ((with_reducible refine g_lenStr ?gz ?_); (case gz => first | assumption | exact sz_le (by omega)))
  | (with_reducible refine g_m1 ?_)
  | (with_reducible refine g_isS ?_)
  | (with_reducible refine g_nn ?_)
  | (with_reducible refine g_yes ?_)
  | (with_reducible refine g_for ?_)
  | (with_reducible refine g_ckw ?_)
  | (with_reducible refine g_iZip ?_)
  | (with_reducible refine g_lc ?_)
  | (with_reducible refine g_lc2 ?_)
  | (with_reducible refine g_iList ?_)
  | (with_reducible refine g_iRng1 ?_)
  | (with_reducible refine g_iRng2 ?_)
  | (with_reducible refine g_sl ?_)
  | (with_reducible refine g_noPart ?_)
  | (with_reducible refine g_part ?_)
  | (with_reducible refine g_ex1 ?_)
  | (with_reducible refine g_bm ?_)
  | ((with_reducible refine' g_tyL (by walk_at "lk") ?_))
  | ((with_reducible refine' g_aug ?gv ?_); (case gv => exact rfl))
  | (with_reducible refine g_ipI ?_)
  | (with_reducible refine g_turn ?_)
  | (with_reducible refine g_brk ?_)
  | (with_reducible refine g_cont ?_)
  | (with_reducible refine g_sign ?_)
  | (with_reducible refine g_lst ?_)
  | (with_reducible refine g_tup ?_)
  | ((with_reducible refine' g_ixL (by assumption) ?ga ?_); (case ga => assumption))
  | ((with_reducible refine' g_ixL (SqL.of (by walk_at "lk")) ?ga ?_); (case ga => first | exact rfl | assumption))
  | ((with_reducible refine' g_ixT (SqT.of (by walk_at "lk")) ?ga ?_); (case ga => first | exact rfl | assumption))
  | ((with_reducible refine' g_lenT (SqT.of (by walk_at "lk")) ?_))
  | ((with_reducible refine' g_isiS (b := true) ?ga ?_); (case ga => decide +kernel))
  | ((with_reducible refine' g_isiS (b := false) ?ga ?_); (case ga => decide +kernel))
  | ((with_reducible refine' g_isiI (b := true) ?ga ?_); (case ga => decide +kernel))
  | ((with_reducible refine' g_isiI (b := false) ?ga ?_); (case ga => decide +kernel))
  | ((with_reducible refine' g_setL2 ?ga ?gb ?_); (case ga => exact rfl); (case gb => exact rfl))
  | ((with_reducible refine' g_setL (by walk_at "lk") ?ga ?gb ?_); (case ga => exact rfl); (case gb => exact rfl)))
local macro_rules | `(tactic| walk_at "go") => `(tactic| ((repeat walk_at "go1"); try dsimp only [List.set, List.cons_append, List.nil_append]))
def spHolds (K : PySem.W.Frag) : Sp := fun vs H Q _ => ∃ (q p : Addr) (ps : List (Addr × List Int)) (ss : List Int), vs = [.ref q, .ref p] ∧ H q = some (.lst (ps.map fun r => V.ref r.1)) ∧ (∀ r ∈ ps, H r.1 = some (.lst (r.2.map V.int))) ∧ ps.length ≤ 10 ∧ (∀ r ∈ ps, r.2.length ≤ 41) ∧ H p = some (.lst (ss.map V.int)) ∧ ∀ H', Same H H' → Q (.bl ((ps.map (·.2)).any fun one => one.all fun x => decide (x ∈ ss))) H'
def spPresent (K : PySem.W.Frag) : Sp := fun vs H Q _ => ∃ (ra f p : Addr) (rs ss : List Int) (fam : Fam), vs = [.ref ra, .ref f, .ref p] ∧ H ra = some (.lst (rs.map V.int)) ∧ FamAt H f fam ∧ FamOk rs fam ∧ rs.length ≤ 41 ∧ H p = some (.lst (ss.map V.int)) ∧ ∀ H', Same H H' → Q (.bl (prF rs fam fun x => decide (x ∈ ss))) H'
def spInts (K : PySem.W.Frag) : Sp := fun vs H Q _ => ∃ (a d : Addr) (xs : List Int), vs = [.ref a, .ref d] ∧ H a = some (.lst (xs.map V.int)) ∧ H d = some (.lst (xs.map V.int)) ∧ xs.length ≤ 1000 ∧ Q (.bl true) H
theorem dec_int (a b : Int) : decide (V.int a = V.int b) = decide (a = b) := decide_eq_decide.mpr ⟨V.int.inj, congrArg _⟩
theorem pow_cast : ∀ hs : List Nat, (hs.map fun k : Nat => ((2 ^ k : Nat) : Int)).sum = ((hs.map (fun k => 2 ^ k)).sum : Nat)
  | [] => rfl
  | a :: l => by rw [List.map_cons, List.sum_cons, List.map_cons, List.sum_cons, pow_cast l]; omega
theorem filt_all (ok : Int → Bool) : ∀ l : List Int, ((l.filter ok).length = l.length) ↔ l.all ok = true
  | [] => by simp
  | a :: l => by
    have ih := filt_all ok l
    have h1 := List.length_filter_le ok l
    rw [List.filter_cons, List.all_cons]
    cases e : ok a with
    | true => simp [ih]
    | false => simp; omega
section
variable {P : Program} {w : World} {K : PySem.W.Frag} {mg : Str → Option Value} {base : Heap} {dA : Nat → Addr}
theorem ok__law_holds (T : Txt K mg dA)  {f : Addr} {fd : FuncData} (F : Fun K "_law_holds" "_law_holds" s__law_holds f fd) : FnOk P w K mg base CX0 1 f fd ["sets", "some"] (spHolds K) := by
  refine F.ok sc__law_holds (fun vs H Q E h => ?_) (fun cdv A outer s H vs Q E hr h => ?_)
  · obtain ⟨q0, p, ps, ss, rfl, _⟩ := h
    rfl
  obtain ⟨q0, p, ps, ss, rfl, hq, hrow, hps, hr41, hp, q⟩ := h
  refine ⟨_, (pss_cons (ps_for PassesOwn.never rfl (kpi_list K (pv 0)) (pg_name (i := 2) sc__law_holds.nd rfl (.inl rfl)) (pss_one (ps_if (pt_cmpR op_eq (pe_callB (kcall_len_seq K) (by rfl) T.b_len (by decide +kernel) (pa_cons (pe_lc (own := [("row", 3)]) rfl sc__law_holds.nd (kpi_list K (pv 2)) (blkOk_by (own := [("row", 3)]) (N := ["sets", "some", "one", "row"]) (sc := defScope s__law_holds) (by decide +kernel)) (fun _ _ _ _ _ => (pg_name (i := 3) sc__law_holds.nd rfl (.inl rfl))) (fun _ _ _ _ _ => (pts_one (pt_cmpR (kop_in_seq K) (pv 3) (pv 1) rfl))) (fun _ _ _ _ _ => (pv 3))) pa_nil)) (pe_callB (kcall_len_seq K) (by rfl) T.b_len (by decide +kernel) (pa_cons (pv 2) pa_nil)) (nomark _)) (pss_one (ps_ret pe_bl)) pss_nil)))
      (pss_one (ps_ret pe_bl))), ?_⟩
  rw [show (L2.start ["sets", "some", "one", "row"] [.ref q0, .ref p] : L2.St) = [some (.ref q0), some (.ref p), none, none] from rfl]
  try simp only [WL.cxK]
  walk_at "go"
  refine f_list (xs := ps.map fun r => V.ref r.1) (SqL.of hq) (fun i σ' H' => ∃ (y z : Option V), σ' = [some (.ref q0), some (.ref p), y, z] ∧ Same H H' ∧ ∀ r ∈ ps.take i, (r.2.all fun x => decide (x ∈ ss)) = false)
    ⟨none, none, rfl, Same.refl H, fun r h => by cases h⟩ (fun i σ' H' _ ⟨_, _, _, s, _⟩ => SqL.of (s _ _ hq)) (fun i x σ' H' hx hP => ?_) (fun σ' H' hP => ?_)
  · obtain ⟨y, z, rfl, s, hno⟩ := hP
    obtain ⟨r, hr, rfl⟩ := map_atG hx
    have hrm := List.mem_of_getElem? hr
    have hrr := s _ _ (hrow r hrm)
    have h41 := hr41 r hrm
    walk_at "go"
    refine f_lcFilt (SqL.of hrr) (by omega) (fun x => decide (x ∈ ss)) (fun _ => rfl) (fun _ => rfl) (fun k n H2 Q' hn s2 hq' => ?_) (fun D nD => ?_)
    · walk_at "go"
      refine g_inI (SqL.of (s2 _ _ (s _ _ hp))) ?_
      walk_at "go"
      exact hq'
    have s3 := same_new (o := .lst ((r.2.filter fun x => decide (x ∈ ss)).map V.int)) nD
    have hrr3 := s3 _ _ hrr
    walk_at "go"
    rw [List.length_map, List.length_map]
    refine g_iteI (fun e => ?_) (fun e => ?_)
    · walk_at "go"
      have e' : (r.2.filter fun x => decide (x ∈ ss)).length = r.2.length := by omega
      have ha := (filt_all _ _).mp e'
      have : ((ps.map (·.2)).any fun one => one.all fun x => decide (x ∈ ss)) = true := by
        rw [List.any_eq_true]
        exact ⟨r.2, List.mem_map.mpr ⟨r, hrm, rfl⟩, ha⟩
      have q2 := q _ (s.trans s3)
      rw [this] at q2
      exact q2
    · walk_at "go"
      refine ⟨_, _, rfl, s.trans s3, fun u hu => ?_⟩
      have hts : ps.take (i + 1) = ps.take i ++ [r] := by rw [List.take_succ, hr]; rfl
      rw [hts] at hu
      rcases List.mem_append.mp hu with hu | hu
      · exact hno u hu
      · rw [List.mem_singleton.mp hu]
        cases ha : (r.2.all fun x => decide (x ∈ ss)) with
        | false => rfl
        | true => exact absurd (by have := (filt_all _ _).mpr ha; omega) e
  · obtain ⟨y, z, rfl, s, hno⟩ := hP
    walk_at "go"
    have : ((ps.map (·.2)).any fun one => one.all fun x => decide (x ∈ ss)) = false := by
      rw [List.any_eq_false]
      intro s' hs'
      obtain ⟨r, hr, rfl⟩ := List.mem_map.mp hs'
      rw [hno r (by rw [List.length_map, List.take_length]; exact hr)]
      decide
    have q2 := q _ s
    rw [this] at q2
    exact q2
theorem ok__law_integers (T : Txt K mg dA)  {f : Addr} {fd : FuncData} (F : Fun K "_law_integers" "_law_integers" s__law_integers f fd) : FnOk P w K mg base CX0 1 f fd ["told", "due"] (spInts K) := by
  refine F.ok sc__law_integers (fun vs H Q E h => ?_) (fun cdv A outer s H vs Q E hr h => ?_)
  · obtain ⟨a, d, xs, rfl, _⟩ := h
    rfl
  obtain ⟨a, d, xs, rfl, ha, hd, hn, q⟩ := h
  refine ⟨_, (pss_cons (ps_if (PW.pt (pw_or (pt_not (pt_val (pe_callB (kcall_isi K) (by rfl) T.b_isinstance (by decide +kernel) (pa_cons (pv 0) (pa_cons (pe_bltn (v := .ty "list") (by rfl) T.b_list (by decide +kernel) rfl) pa_nil))))) (pw_or1 (pt_cmpR op_ne (pe_callB (kcall_len_seq K) (by rfl) T.b_len (by decide +kernel) (pa_cons (pv 0) pa_nil)) (pe_callB (kcall_len_seq K) (by rfl) T.b_len (by decide +kernel) (pa_cons (pv 1) pa_nil)) (nomark _))))) (pss_one (ps_ret pe_bl)) pss_nil)
      (pss_cons (ps_for PassesOwn.never rfl (pi_range1 (by rfl) T.b_range (pa_cons (pe_callB (kcall_len_seq K) (by rfl) T.b_len (by decide +kernel) (pa_cons (pv 1) pa_nil)) pa_nil)) (pg_name (i := 2) sc__law_integers.nd rfl (.inl rfl)) (pss_one (ps_if (PW.pt (pw_or (pt_not (pt_val (pe_callB (kcall_isi K) (by rfl) T.b_isinstance (by decide +kernel) (pa_cons (pe_ix (kix_list K) (pv 0) (pv 2) (fun _ _ => rfl)) (pa_cons (pe_bltn (v := .ty "int") (by rfl) T.b_int (by decide +kernel) rfl) pa_nil))))) (pw_or (pt_val (pe_callB (kcall_isi K) (by rfl) T.b_isinstance (by decide +kernel) (pa_cons (pe_ix (kix_list K) (pv 0) (pv 2) (fun _ _ => rfl)) (pa_cons (pe_bltn (v := .ty "bool") (by rfl) T.b_bool (by decide +kernel) rfl) pa_nil)))) (pw_or1 (pt_cmpR op_ne (pe_ix (kix_list K) (pv 0) (pv 2) (fun _ _ => rfl)) (pe_ix (kix_list K) (pv 1) (pv 2) (fun _ _ => rfl)) (nomark _)))))) (pss_one (ps_ret pe_bl)) pss_nil)))
      (pss_one (ps_ret pe_bl)))), ?_⟩
  rw [show (L2.start ["told", "due", "k"] [.ref a, .ref d] : L2.St) = [some (.ref a), some (.ref d), none] from rfl]
  try simp only [WL.cxK]
  walk_at "go"
  refine g_isiB (.base (.lst ha)) (b := true) (by decide +kernel) ?_
  walk_at "go"
  rw [List.length_map]
  refine g_iteNI (fun h => absurd rfl h) (fun _ => ?_)
  walk_at "go"
  rw [List.length_map]
  refine f_rng1 (z := (xs.length : Nat)) (by omega) (by omega) (fun i σ' H' => ∃ (y : Option V), σ' = [some (.ref a), some (.ref d), y] ∧ H' = H) ⟨none, rfl, rfl⟩ (fun i σ' H' hi hP => ?_) (fun σ' H' hP => ?_)
  · obtain ⟨y, rfl, rfl⟩ := hP
    have hit : i < xs.length := by omega
    have ix : atI (xs.map V.int) (i : Int) = some (.int xs[i]) := atI_nat (by rw [List.getElem?_map, List.getElem?_eq_getElem hit]; rfl)
    generalize xs[i] = n at ix
    walk_at "go"
    rw [decide_eq_true rfl]
    walk_at "go"
    exact ⟨_, rfl, rfl⟩
  · obtain ⟨y, rfl, rfl⟩ := hP
    walk_at "go"
    exact q
theorem ok__law_present (T : Txt K mg dA) (c__law_holds : C8.Cal P w K mg base 1 "_law_holds" (spHolds K) []) {f : Addr} {fd : FuncData} (F : Fun K "_law_present" "_law_present" s__law_present f fd) : FnOk P w K mg base CX0 2 f fd ["rows", "family", "some"] (spPresent K) := by
  refine F.ok sc__law_present (fun vs H Q E h => ?_) (fun cdv A outer s H vs Q E hr h => ?_)
  · obtain ⟨ra, f, p, rs, ss, fam, rfl, _⟩ := h
    rfl
  obtain ⟨ra, f, p, rs, ss, fam, rfl, hra, hF, hok, hrs, hp, q⟩ := h
  refine ⟨_, (pss_cons (ps_setLc (i := 3) (own := [("k", 5)]) rfl sc__law_present.nd rfl rfl (sw_true rfl rfl rfl (by decide +kernel)) (pi_range1 (by rfl) T.b_range (pa_cons (pe_callB (kcall_len_seq K) (by rfl) T.b_len (by decide +kernel) (pa_cons (pv 0) pa_nil)) pa_nil)) (blkOk_by (own := [("k", 5)]) (N := ["rows", "family", "some", "here", "weight", "k"]) (sc := defScope s__law_present) (by decide +kernel)) (fun _ _ _ _ _ => (pg_name (i := 5) sc__law_present.nd rfl (.inl rfl))) (fun _ _ _ _ _ => (pts_one (pt_cmpR (kop_in_seq K) (pe_ix (kix_list K) (pv 0) (pv 5) (fun _ _ => rfl)) (pv 2) rfl))) (fun _ _ _ _ _ => (pv 5)))
      (pss_cons (ps_if (pt_cmpR op_eq (pe_callB (kcall_len_seq K) (by rfl) T.b_len (by decide +kernel) (pa_cons (pv 3) pa_nil)) (pe_callB (kcall_len_seq K) (by rfl) T.b_len (by decide +kernel) (pa_cons (pv 0) pa_nil)) (nomark _)) (pss_one (ps_ret pe_bl)) pss_nil)
      (pss_cons (ps_if (pt_cmpR op_eq (pe_ix (kix_list K) (pv 1) pe_int (fun _ _ => rfl)) pe_str (nomark _)) (pss_one (ps_ret (pe_cmpR op_eq (pe_ix (kix_list K) (pe_ix (kix_list K) (pv 1) pe_int (fun _ _ => rfl)) (pe_callB (kcr_sum K) (by rfl) T.b_sum (by decide +kernel) (pa_cons (pe_lc (own := [("k", 5)]) rfl sc__law_present.nd (kpi_list K (pv 3)) (blkOk_by (own := [("k", 5)]) (N := ["rows", "family", "some", "here", "weight", "k"]) (sc := defScope s__law_present) (by decide +kernel)) (fun _ _ _ _ _ => (pg_name (i := 5) sc__law_present.nd rfl (.inl rfl))) (fun _ _ _ _ _ => pts_nil) (fun _ _ _ _ _ => (pe_op op_shl pe_int (pv 5)))) pa_nil)) (fun _ _ => rfl)) pe_int (nomark _)))) pss_nil)
      (pss_cons (ps_if (pt_cmpR op_eq (pe_ix (kix_list K) (pv 1) pe_int (fun _ _ => rfl)) pe_str (nomark _)) (pss_one (ps_ret (C8.pe_c c__law_holds hr (by decide) (by rfl) (pa_cons (pe_ix (kix_list K) (pv 1) pe_int (fun _ _ => rfl)) (pa_cons (pv 2) pa_nil))))) pss_nil)
      (pss_cons (ps_set (i := 4) sc__law_present.nd rfl (.inl rfl) (pe_callB (kcr_sum K) (by rfl) T.b_sum (by decide +kernel) (pa_cons (pe_lc (own := [("k", 5)]) rfl sc__law_present.nd (kpi_list K (pv 3)) (blkOk_by (own := [("k", 5)]) (N := ["rows", "family", "some", "here", "weight", "k"]) (sc := defScope s__law_present) (by decide +kernel)) (fun _ _ _ _ _ => (pg_name (i := 5) sc__law_present.nd rfl (.inl rfl))) (fun _ _ _ _ _ => pts_nil) (fun _ _ _ _ _ => (pe_ix (kix_list K) (pe_ix (kix_list K) (pv 1) pe_int (fun _ _ => rfl)) (pv 5) (fun _ _ => rfl)))) pa_nil)))
      (pss_cons (ps_if (pt_cmpR op_eq (pe_ix (kix_list K) (pv 1) pe_int (fun _ _ => rfl)) pe_str (nomark _)) (pss_one (ps_ret (pe_cmpR op_ge (pv 4) (pe_ix (kix_list K) (pv 1) pe_int (fun _ _ => rfl)) (nomark _)))) pss_nil)
      (pss_one (ps_ret (pe_cmpR op_lt (pe_op op_mod (pe_callTy call_int1 (by rfl) T.b_int (by decide +kernel) (pa_cons (pv 4) pa_nil)) (pe_ix (kix_list K) (pv 1) pe_int (fun _ _ => rfl))) (pe_ix (kix_list K) (pv 1) pe_int (fun _ _ => rfl)) (nomark _)))))))))), ?_⟩
  rw [show (L2.start ["rows", "family", "some", "here", "weight", "k"] [.ref ra, .ref f, .ref p] : L2.St) = [some (.ref ra), some (.ref f), some (.ref p), none, none, none] from rfl]
  try simp only [WL.cxK]
  walk_at "go"
  rw [List.length_map]
  have e1 : here rs (fun x => decide (x ∈ ss)) = (List.range rs.length).filter fun k => decide (rs.getD k 0 ∈ ss) := rfl
  refine f_lcFiltR (m := rs.length) rfl (by omega) (fun k => decide (rs.getD k 0 ∈ ss)) (fun _ => rfl) (fun _ => rfl) (fun k H2 Q' hk s2 hq' => ?_) (fun D nD => ?_)
  · have ix : atI (rs.map V.int) (k : Int) = some (.int (rs.getD k 0)) := atI_nat (by rw [List.getElem?_map, List.getD_eq_getElem?_getD, List.getElem?_eq_getElem hk]; rfl)
    walk_at "go"
    refine g_ixL (SqL.of (s2 _ _ hra)) ix ?_
    walk_at "go"
    refine g_inI (SqL.of (s2 _ _ hp)) ?_
    walk_at "go"
    exact hq'
  rw [← e1]
  have hlt : ∀ k ∈ here rs (fun x => decide (x ∈ ss)), k < rs.length := fun k hk => here_lt hk
  have hprF : prF rs fam (fun x => decide (x ∈ ss)) = (decide ((here rs (fun x => decide (x ∈ ss))).length = rs.length) || pr rs fam (fun x => decide (x ∈ ss))) := rfl
  have hhl : (here rs (fun x => decide (x ∈ ss))).length ≤ 41 := by
    have := List.length_filter_le (fun k => decide (rs.getD k 0 ∈ ss)) (List.range rs.length)
    rw [List.length_range] at this
    rw [e1]; omega
  have hpow : rs.length ≤ 5 → ((here rs (fun x => decide (x ∈ ss))).map (fun k => 2 ^ k)).sum < 32 := fun h => here_pow h
  unfold pr at hprF
  generalize here rs (fun x => decide (x ∈ ss)) = hs at *
  have s1 := same_new (o := .lst (hs.map fun k : Nat => V.int (k : Int))) nD
  have hD : (upd H D (.lst (hs.map fun k : Nat => V.int (k : Int)))) D = some (.lst (hs.map fun k : Nat => V.int (k : Int))) := upd_same
  generalize upd H D (.lst (hs.map fun k : Nat => V.int (k : Int))) = H1 at *
  have hra1 := s1 _ _ hra
  have hp1 := s1 _ _ hp
  have hF1 := hF.keep s1
  walk_at "go"
  rw [List.length_map, List.length_map]
  refine g_iteI (fun e => ?_) (fun e => ?_)
  · walk_at "go"
    have q2 := q _ s1
    rw [hprF, decide_eq_true (show hs.length = rs.length by omega)] at q2
    exact q2
  rw [decide_eq_false (show ¬ hs.length = rs.length by omega), Bool.false_or] at hprF
  rw [hprF] at q
  have sw : ∀ {ws : List Int}, ws.length = rs.length → (hs.map fun k : Nat => V.int (k : Int)).map (fun v => match v with | .int z => .int (ws.getD z.toNat 0) | x => x) = (hs.map fun k => ws.getD k 0).map V.int := fun {ws} _ => by
    rw [List.map_map, List.map_map]
    refine List.map_congr_left fun k _ => ?_
    show V.int (ws.getD ((k : Nat) : Int).toNat 0) = V.int (ws.getD k 0)
    rw [Int.toNat_natCast]
  have ixw : ∀ {ws : List Int} {k : Nat}, ws.length = rs.length → k ∈ hs → atI (ws.map V.int) (k : Int) = some (.int (ws.getD k 0)) := fun {ws k} hl hk => atI_nat (by
    have := hlt k hk
    rw [List.getElem?_map, List.getD_eq_getElem?_getD, List.getElem?_eq_getElem (by omega)]; rfl)
  cases fam with
  | any bits =>
    obtain ⟨qa, hf, hq⟩ := hF1
    walk_at "go"
    rw [decide_eq_true rfl]
    walk_at "go"
    refine f_lcMap (xs := hs.map fun k : Nat => V.int (k : Int)) (SqL.of hD) (by rw [List.length_map]; omega) (fun v => match v with | .int z => .int (1 * 2 ^ z.toNat) | x => x) (fun _ => rfl) (fun i x H2 Q' hx s2 hq' => ?_) (fun E nE => ?_)
    · obtain ⟨k, hk, rfl⟩ := map_atG hx
      have hkl := hlt k (List.mem_of_getElem? hk)
      have hsh : CPow 1 ((k : Nat) : Int) := ⟨by omega, by omega, by decide⟩
      walk_at "go"
      exact hq'
    have em : (hs.map fun k : Nat => V.int (k : Int)).map (fun v => match v with | .int z => .int (1 * 2 ^ z.toNat) | x => x) = (hs.map fun k : Nat => ((2 ^ k : Nat) : Int)).map V.int := by
      rw [List.map_map, List.map_map]
      refine List.map_congr_left fun k _ => ?_
      show V.int (1 * 2 ^ ((k : Nat) : Int).toNat) = V.int ((2 ^ k : Nat) : Int)
      rw [Int.toNat_natCast, Int.one_mul, Int.natCast_pow]; rfl
    rw [em]
    walk_at "go"
    refine ⟨E, _, rfl, SqL.of upd_same, ?_⟩
    rw [pow_cast]
    have hb := hpow hok.2
    have hbl : (hs.map (fun k => 2 ^ k)).sum < bits.length := by rw [hok.1]; exact hb
    have hqE : (upd H1 E (.lst ((hs.map fun k : Nat => ((2 ^ k : Nat) : Int)).map V.int))) qa = some (.lst (bits.map V.int)) := by rw [upd_ne (ne_of_none hq nE)]; exact hq
    refine g_ixL (SqL.of hqE) (at_z rfl (by rw [List.getElem?_map, List.getElem?_eq_getElem hbl]; rfl)) ?_
    walk_at "go"
    have eg : bits.getD ((hs.map (fun k => 2 ^ k)).sum) 0 = bits[(hs.map (fun k => 2 ^ k)).sum] := by rw [List.getD_eq_getElem?_getD, List.getElem?_eq_getElem hbl]; rfl
    rw [dec_int, ← eg]
    exact q _ (s1.trans (same_new nE))
  | holds sets =>
    obtain ⟨qs, ps, hf, hq, rfl, hrow⟩ := hF1
    walk_at "go"
    rw [decide_eq_false (show ¬ V.str (Str.ofString "holds") = V.str (Str.ofString "any") by decide +kernel)]
    walk_at "go"
    rw [decide_eq_true rfl]
    walk_at "go"
    have ho1 : (ps.map (·.2)).length ≤ 10 := hok.1
    rw [List.length_map] at ho1
    refine ⟨qs, p, ps, ss, rfl, hq, hrow, ho1, fun r hr => (hok.2 r.2 (List.mem_map.mpr ⟨r, hr, rfl⟩)).1, hp1, fun H2 s2 => ?_⟩
    exact q _ (s1.trans s2)
  | weight ws bd =>
    obtain ⟨qw, hf, hq⟩ := hF1
    walk_at "go"
    rw [decide_eq_false (show ¬ V.str (Str.ofString "weight") = V.str (Str.ofString "any") by decide +kernel)]
    walk_at "go"
    rw [decide_eq_false (show ¬ V.str (Str.ofString "weight") = V.str (Str.ofString "holds") by decide +kernel)]
    walk_at "go"
    refine f_lcMap (xs := hs.map fun k : Nat => V.int (k : Int)) (SqL.of hD) (by rw [List.length_map]; omega) (fun v => match v with | .int z => .int (ws.getD z.toNat 0) | x => x) (fun _ => rfl) (fun i x H2 Q' hx s2 hq' => ?_) (fun E nE => ?_)
    · obtain ⟨k, hk, rfl⟩ := map_atG hx
      have hf2 := s2 _ _ hf
      have hq2 := s2 _ _ hq
      have hi := ixw hok.1 (List.mem_of_getElem? hk)
      walk_at "go"
      have hq' : Q' (.int (ws.getD ((k : Nat) : Int).toNat 0)) H2 := hq'
      rw [Int.toNat_natCast] at hq'
      first | exact hq' | exact g_ixL (SqL.of hq2) hi hq'
    rw [sw hok.1]
    have s3 := same_new (o := .lst ((hs.map fun k => ws.getD k 0).map V.int)) nE
    have hf3 := s3 _ _ hf
    walk_at "go"
    refine ⟨E, _, rfl, SqL.of upd_same, ?_⟩
    walk_at "go"
    rw [decide_eq_true rfl]
    walk_at "go"
    exact q _ (s1.trans s3)
  | rest ws md r =>
    obtain ⟨qw, hf, hq⟩ := hF1
    have hmd : 0 < md := hok.2
    walk_at "go"
    rw [decide_eq_false (show ¬ V.str (Str.ofString "rest") = V.str (Str.ofString "any") by decide +kernel)]
    walk_at "go"
    rw [decide_eq_false (show ¬ V.str (Str.ofString "rest") = V.str (Str.ofString "holds") by decide +kernel)]
    walk_at "go"
    refine f_lcMap (xs := hs.map fun k : Nat => V.int (k : Int)) (SqL.of hD) (by rw [List.length_map]; omega) (fun v => match v with | .int z => .int (ws.getD z.toNat 0) | x => x) (fun _ => rfl) (fun i x H2 Q' hx s2 hq' => ?_) (fun E nE => ?_)
    · obtain ⟨k, hk, rfl⟩ := map_atG hx
      have hf2 := s2 _ _ hf
      have hq2 := s2 _ _ hq
      have hi := ixw hok.1 (List.mem_of_getElem? hk)
      walk_at "go"
      have hq' : Q' (.int (ws.getD ((k : Nat) : Int).toNat 0)) H2 := hq'
      rw [Int.toNat_natCast] at hq'
      first | exact hq' | exact g_ixL (SqL.of hq2) hi hq'
    rw [sw hok.1]
    have s3 := same_new (o := .lst ((hs.map fun k => ws.getD k 0).map V.int)) nE
    have hf3 := s3 _ _ hf
    walk_at "go"
    refine ⟨E, _, rfl, SqL.of upd_same, ?_⟩
    walk_at "go"
    rw [decide_eq_false (show ¬ V.str (Str.ofString "rest") = V.str (Str.ofString "weight") by decide +kernel)]
    walk_at "go"
    exact q _ (s1.trans s3)
end
end K05
set_option Elab.async false
set_option linter.all false
set_option maxRecDepth 100000
set_option maxHeartbeats 4000000
namespace K05
open PySem PySem.Spec PyProof.Rows L2 WL WLam LamX NdefX
local macro_rules | `(tactic| walk_at "lk") => `(tactic| first
  | exact upd_same
  | assumption
  | (rw [upd_ne (by assumption)]; first | exact upd_same | assumption | (rw [upd_ne (by assumption)]; first | exact upd_same | assumption | (rw [upd_ne (by assumption)]; first | exact upd_same | assumption))))
local macro_rules | `(tactic| walk_at "go1") => `(tactic| first
  | (with_reducible refine g_seq ?_)
  | (with_reducible refine g_asg ?_)
  | (with_reducible refine g_name ?_)
  | (with_reducible refine g_sub ?_)
  | ((with_reducible refine' g_var ?gv ?_); (case gv => exact rfl))
  | (with_reducible refine g_c ?_)
  | (with_reducible refine g_op ?_)
  | (with_reducible refine g_un ?_)
  | (with_reducible refine g_I0 ?_)
  | ((with_reducible refine g_I ?gc ?_); (case gc => first | assumption | decide | (show (0 : Int) < _; omega) | exact Or.inr ⟨by omega, by omega⟩ | exact Or.inl ⟨by omega, by omega⟩ | exact ⟨by omega, by omega⟩))
  | (with_reducible refine iteT ?_)
  | (with_reducible refine iteF ?_)
  | (with_reducible refine iteNT ?_)
  | (with_reducible refine iteNF ?_)
  | (with_reducible refine g_andV ?_)
  | (with_reducible refine g_orV ?_)
  | ((with_reducible refine' g_lenS (by assumption) ?_))
  | ((with_reducible refine' g_lenS (SqL.of (by walk_at "lk")) ?_))
  | (with_reducible refine g_U ?_)
  | ((with_reducible refine g_eq ?gs ?_); (case gs => rfl))
  | ((with_reducible refine g_ne ?gs ?_); (case gs => rfl))
  | (with_reducible refine g_drop ?_)
  | (with_reducible refine g_ret ?_)
  | (with_reducible refine g_next ?_)
  | (with_reducible refine g_ifS ?_)
  | (with_reducible refine g_ifE ?_)
  | (with_reducible refine g_test ?_)
  | (with_reducible refine g_tb ?_)
  | (with_reducible refine g_bl ?_)
  | (with_reducible refine g_not ?_)
  | (with_reducible refine g_and ?_)
  | (with_reducible refine g_or ?_)
  | (with_reducible refine g_nil ?_)
  | (with_reducible refine g_cons ?_)
  | (with_reducible refine g_cb ?_)
  | (with_reducible refine g_call ?_)
  | (with_reducible refine g_int ?_)
  | (with_reducible refine g_two ?_)
  | ((with_reducible refine g_lenStr ?gz ?_); (case gz => first | assumption | exact sz_le (by omega)))
  | (with_reducible refine g_m1 ?_)
  | (with_reducible refine g_isS ?_)
  | (with_reducible refine g_nn ?_)
  | (with_reducible refine g_yes ?_)
  | (with_reducible refine g_for ?_)
  | (with_reducible refine g_ckw ?_)
  | (with_reducible refine g_iZip ?_)
  | (with_reducible refine g_lc ?_)
  | (with_reducible refine g_lc2 ?_)
  | (with_reducible refine g_iList ?_)
  | (with_reducible refine g_iRng1 ?_)
  | (with_reducible refine g_iRng2 ?_)
  | (with_reducible refine g_sl ?_)
  | (with_reducible refine g_noPart ?_)
  | (with_reducible refine g_part ?_)
  | (with_reducible refine g_ex1 ?_)
  | (with_reducible refine g_bm ?_)
  | ((with_reducible refine' g_tyL (by walk_at "lk") ?_))
  | ((with_reducible refine' g_aug ?gv ?_); (case gv => exact rfl))
  | (with_reducible refine g_ipI ?_)
  | (with_reducible refine g_turn ?_)
  | (with_reducible refine g_brk ?_)
  | (with_reducible refine g_cont ?_)
  | (with_reducible refine g_sign ?_)
  | (with_reducible refine g_lst ?_)
  | (with_reducible refine g_tup ?_)
  | ((with_reducible refine' g_ixL (by assumption) ?ga ?_); (case ga => assumption))
  | ((with_reducible refine' g_ixL (SqL.of (by walk_at "lk")) ?ga ?_); (case ga => first | exact rfl | assumption))
  | ((with_reducible refine' g_ixT (SqT.of (by walk_at "lk")) ?ga ?_); (case ga => first | exact rfl | assumption))
  | ((with_reducible refine' g_lenT (SqT.of (by walk_at "lk")) ?_))
  | ((with_reducible refine' g_isiS (b := true) ?ga ?_); (case ga => decide +kernel))
  | ((with_reducible refine' g_isiS (b := false) ?ga ?_); (case ga => decide +kernel))
  | ((with_reducible refine' g_isiI (b := true) ?ga ?_); (case ga => decide +kernel))
  | ((with_reducible refine' g_isiI (b := false) ?ga ?_); (case ga => decide +kernel))
  | ((with_reducible refine' g_setL2 ?ga ?gb ?_); (case ga => exact rfl); (case gb => exact rfl))
  | ((with_reducible refine' g_setL (by walk_at "lk") ?ga ?gb ?_); (case ga => exact rfl); (case gb => exact rfl)))
local macro_rules | `(tactic| walk_at "go") => `(tactic| ((repeat walk_at "go1"); try dsimp only [List.set, List.cons_append, List.nil_append]))
/-- rows, family as they were ahead of the list seen at s; j lists seen -/
def Wd (ra f s : Addr) (rs : List Int) (fam : Fam) (j : Nat) (H : Hp) : Prop := ∃ H0 : Hp, H0 s = none ∧ H0 ra = some (.lst (rs.map V.int)) ∧ FamAt H0 f fam ∧ Kp s H0 H ∧
  ∃ ss : List (Addr × List Int), H s = some (.lst (ss.map fun r => V.ref r.1)) ∧ ss.length = j ∧ ∀ r ∈ ss, r.1 ≠ s ∧ H r.1 = some (.lst (r.2.map V.int)) ∧ ∃ m : Int → Bool, r.2 = rs.filter m
theorem Wd.rows {ra f s : Addr} {rs : List Int} {fam : Fam} {j : Nat} {H : Hp} (h : Wd ra f s rs fam j H) : H ra = some (.lst (rs.map V.int)) := by
  obtain ⟨H0, h1, h2, h3, h4, _⟩ := h
  exact h4 _ _ h2 (ne_of_none h2 h1)
theorem Wd.fam {ra f s : Addr} {rs : List Int} {fam : Fam} {j : Nat} {H : Hp} (h : Wd ra f s rs fam j H) : FamAt H f fam := by
  obtain ⟨H0, h1, h2, h3, h4, _⟩ := h
  exact h3.keep fun a o e => h4 a o e (ne_of_none e h1)
theorem Wd.same {ra f s : Addr} {rs : List Int} {fam : Fam} {j : Nat} {H H' : Hp} (h : Wd ra f s rs fam j H) (S : Same H H') : Wd ra f s rs fam j H' := by
  obtain ⟨H0, h1, h2, h3, h4, ss, a, b, c⟩ := h
  exact ⟨H0, h1, h2, h3, h4.trans (Kp.same S), ss, S _ _ a, b, fun r hr => ⟨(c r hr).1, S _ _ (c r hr).2.1, (c r hr).2.2⟩⟩
def spNote (K : PySem.W.Frag) : Sp := fun vs H Q _ => ∃ (ra f s p : Addr) (rs : List Int) (fam : Fam) (m : Int → Bool) (j : Nat), vs = [.ref ra, .ref f, .ref s, .ref p] ∧ Wd ra f s rs fam j H ∧ FamOk rs fam ∧ rs.length ≤ 41 ∧ j ≤ 50 ∧ H p = some (.lst ((rs.filter m).map V.int)) ∧ p ≠ s ∧
  ∀ H', Wd ra f s rs fam (j + 1) H' → Kp s H H' → Q (.bl (prF rs fam m)) H'
def spOrder (K : PySem.W.Frag) : Sp := fun vs H Q _ => ∃ (ra o : Addr) (rs : List Int) (m : Int → Bool), vs = [.ref ra, .ref o] ∧ H ra = some (.lst (rs.map V.int)) ∧ H o = some (.lst ((rs.filter m).map V.int)) ∧ rs.length ≤ 41 ∧ ∀ H', Same H H' → Q (.bl true) H'
theorem mem_filt {rs : List Int} {m : Int → Bool} : ∀ x ∈ rs, decide (x ∈ rs.filter m) = m x := fun x hx => by
  cases e : m x with
  | true => exact decide_eq_true (List.mem_filter.mpr ⟨hx, e⟩)
  | false => exact decide_eq_false fun h => by rw [(List.mem_filter.mp h).2] at e; cases e
section
variable {P : Program} {w : World} {K : PySem.W.Frag} {mg : Str → Option Value} {base : Heap} {dA : Nat → Addr}
theorem ok__law_note (T : Txt K mg dA) (c__law_present : C8.Cal P w K mg base 2 "_law_present" (spPresent K) []) {f : Addr} {fd : FuncData} (F : Fun K "_law_note" "_law_note" s__law_note f fd) : FnOk P w K mg base CX0 3 f fd ["rows", "family", "seen", "some"] (spNote K) := by
  refine F.ok sc__law_note (fun vs H Q E h => ?_) (fun cdv A outer s H vs Q E hr h => ?_)
  · obtain ⟨ra, f, s0, p, rs, fam, m, j, rfl, _⟩ := h
    rfl
  obtain ⟨ra, f, s0, p, rs, fam, m, j, rfl, hW, hok, hrs, hj, hp, nps, q⟩ := h
  refine ⟨_, (pss_cons (ps_if (pt_not (pt_val (pe_callB (kcall_isi K) (by rfl) T.b_isinstance (by decide +kernel) (pa_cons (pv 3) (pa_cons (pe_bltn (v := .ty "list") (by rfl) T.b_list (by decide +kernel) rfl) pa_nil))))) (pss_cons (ps_expr (kpe_bm K PySem.F.plainAttrs_list PySem.F.slot_list_append PySem.F.type_list_append mt_append (pv 2) (pa_cons pe_non pa_nil)))
      (pss_one (ps_ret pe_bl))) pss_nil)
      (pss_cons (ps_expr (kpe_bm K PySem.F.plainAttrs_list PySem.F.slot_list_append PySem.F.type_list_append mt_append (pv 2) (pa_cons (pe_callTy (kcall_list_of K) (by rfl) T.b_list (by decide +kernel) (pa_cons (pv 3) pa_nil)) pa_nil)))
      (pss_one (ps_ret (C8.pe_c c__law_present hr (by decide) (by rfl) (pa_cons (pv 0) (pa_cons (pv 1) (pa_cons (pv 3) pa_nil)))))))), ?_⟩
  rw [show (L2.start ["rows", "family", "seen", "some"] [.ref ra, .ref f, .ref s0, .ref p] : L2.St) = [some (.ref ra), some (.ref f), some (.ref s0), some (.ref p)] from rfl]
  try simp only [WL.cxK]
  walk_at "go"
  refine g_isiB (.base (.lst hp)) (b := true) (by decide +kernel) ?_
  have hW0 := hW
  obtain ⟨H0, h1, h2, h3, h4, ss, hs, hsl, hsr⟩ := hW
  walk_at "go"
  intro l nl
  have nls : l ≠ s0 := (ne_of_none hs nl).symm
  walk_at "go"
  refine g_app (by rw [upd_ne nls.symm]; exact hs) (sz_lt (by rw [List.length_map]; omega)) ?_
  walk_at "go"
  generalize hH2 : upd (upd H l (.lst ((rs.filter m).map V.int))) s0 (.lst (ss.map (fun r => V.ref r.1) ++ [V.ref l])) = H2
  have k2 : Kp s0 H H2 := by rw [← hH2]; exact ((Kp.refl H).new nl).set
  have w2 : Wd ra f s0 rs fam (j + 1) H2 := ⟨H0, h1, h2, h3, h4.trans k2, ss ++ [(l, rs.filter m)], by rw [← hH2, upd_same, List.map_append]; rfl, by simp [hsl], fun r hr => by
    rcases List.mem_append.mp hr with hr | hr
    · exact ⟨(hsr r hr).1, k2 _ _ (hsr r hr).2.1 (hsr r hr).1, (hsr r hr).2.2⟩
    · rw [List.mem_singleton.mp hr]
      exact ⟨nls, by rw [← hH2]; show upd _ _ _ l = _; rw [upd_ne nls, upd_same], m, rfl⟩⟩
  refine ⟨ra, f, p, rs, rs.filter m, fam, rfl, w2.rows, w2.fam, hok, hrs, k2 _ _ hp nps, fun H3 s3 => ?_⟩
  rw [prF_congr hok mem_filt]
  exact q _ (w2.same s3) (k2.trans (Kp.same s3))
theorem ok__law_order (T : Txt K mg dA) (c__law_integers : C8.Cal P w K mg base 1 "_law_integers" (spInts K) []) {f : Addr} {fd : FuncData} (F : Fun K "_law_order" "_law_order" s__law_order f fd) : FnOk P w K mg base CX0 2 f fd ["rows", "one"] (spOrder K) := by
  refine F.ok sc__law_order (fun vs H Q E h => ?_) (fun cdv A outer s H vs Q E hr h => ?_)
  · obtain ⟨ra, o, rs, m, rfl, _⟩ := h
    rfl
  obtain ⟨ra, o, rs, m, rfl, hra, ho, hrs, q⟩ := h
  refine ⟨_, (pss_cons (ps_if (pt_cmpR op_isN (pv 1) pe_non (nomark _)) (pss_one (ps_ret pe_bl)) pss_nil)
      (pss_one (ps_ret (C8.pe_c c__law_integers hr (by decide) (by rfl) (pa_cons (pv 1) (pa_cons (pe_lc (own := [("row", 2)]) rfl sc__law_order.nd (kpi_list K (pv 0)) (blkOk_by (own := [("row", 2)]) (N := ["rows", "one", "row"]) (sc := defScope s__law_order) (by decide +kernel)) (fun _ _ _ _ _ => (pg_name (i := 2) sc__law_order.nd rfl (.inl rfl))) (fun _ _ _ _ _ => (pts_one (pt_cmpR (kop_in_seq K) (pv 2) (pv 1) rfl))) (fun _ _ _ _ _ => (pv 2))) pa_nil)))))), ?_⟩
  rw [show (L2.start ["rows", "one", "row"] [.ref ra, .ref o] : L2.St) = [some (.ref ra), some (.ref o), none] from rfl]
  try simp only [WL.cxK]
  walk_at "go"
  rw [decide_eq_false (show ¬ V.ref o = V.non from fun h => by cases h)]
  walk_at "go"
  refine f_lcFilt (SqL.of hra) (by omega) (fun x => decide (x ∈ rs.filter m)) (fun _ => rfl) (fun _ => rfl) (fun k n H2 Q' hn s2 hq' => ?_) (fun D nD => ?_)
  · walk_at "go"
    refine g_inI (SqL.of (s2 _ _ ho)) ?_
    walk_at "go"
    exact hq'
  rw [List.filter_congr (mem_filt (m := m))]
  have s1 := same_new (o := .lst ((rs.filter m).map V.int)) nD
  walk_at "go"
  refine ⟨o, D, rs.filter m, rfl, s1 _ _ ho, upd_same, ?_, q _ s1⟩
  have := List.length_filter_le m rs
  omega
end
end K05
set_option Elab.async false
set_option linter.all false
set_option maxRecDepth 100000
set_option maxHeartbeats 4000000
namespace K05
open PySem PySem.Spec PyProof.Rows L2 WL WLam LamX NdefX
local macro_rules | `(tactic| walk_at "lk") => `(tactic| first
  | exact upd_same
  | assumption
  | (rw [upd_ne (by assumption)]; first | exact upd_same | assumption | (rw [upd_ne (by assumption)]; first | exact upd_same | assumption | (rw [upd_ne (by assumption)]; first | exact upd_same | assumption))))
local macro_rules | `(tactic| walk_at "go1") => `(tactic| first
  | (with_reducible refine g_seq ?_)
  | (with_reducible refine g_asg ?_)
  | (with_reducible refine g_name ?_)
  | (with_reducible refine g_sub ?_)
  | ((with_reducible refine' g_var ?gv ?_); (case gv => exact rfl))
  | (with_reducible refine g_c ?_)
  | (with_reducible refine g_op ?_)
  | (with_reducible refine g_un ?_)
  | (with_reducible refine g_I0 ?_)
  | ((with_reducible refine g_I ?gc ?_); (case gc => first | assumption | decide | (show (0 : Int) < _; omega) | exact Or.inr ⟨by omega, by omega⟩ | exact Or.inl ⟨by omega, by omega⟩ | exact ⟨by omega, by omega⟩))
  | (with_reducible refine iteT ?_)
  | (with_reducible refine iteF ?_)
  | (with_reducible refine iteNT ?_)
  | (with_reducible refine iteNF ?_)
  | (with_reducible refine g_andV ?_)
  | (with_reducible refine g_orV ?_)
  | ((with_reducible refine' g_lenS (by assumption) ?_))
  | ((with_reducible refine' g_lenS (SqL.of (by walk_at "lk")) ?_))
  | (with_reducible refine g_U ?_)
  | ((with_reducible refine g_eq ?gs ?_); (case gs => rfl))
  | ((with_reducible refine g_ne ?gs ?_); (case gs => rfl))
  | (with_reducible refine g_drop ?_)
  | (with_reducible refine g_ret ?_)
  | (with_reducible refine g_next ?_)
  | (with_reducible refine g_ifS ?_)
  | (with_reducible refine g_ifE ?_)
  | (with_reducible refine g_test ?_)
  | (with_reducible refine g_tb ?_)
  | (with_reducible refine g_bl ?_)
  | (with_reducible refine g_not ?_)
  | (with_reducible refine g_and ?_)
  | (with_reducible refine g_or ?_)
  | (with_reducible refine g_nil ?_)
  | (with_reducible refine g_cons ?_)
  | (with_reducible refine g_cb ?_)
  | (with_reducible refine g_call ?_)
  | (with_reducible refine g_int ?_)
  | (with_reducible refine g_two ?_)
  | ((with_reducible refine g_lenStr ?gz ?_); (case gz => first | assumption | exact sz_le (by omega)))
  | (with_reducible refine g_m1 ?_)
  | (with_reducible refine g_isS ?_)
  | (with_reducible refine g_nn ?_)
  | (with_reducible refine g_yes ?_)
  | (with_reducible refine g_for ?_)
  | (with_reducible refine g_ckw ?_)
  | (with_reducible refine g_iZip ?_)
  | (with_reducible refine g_lc ?_)
  | (with_reducible refine g_lc2 ?_)
  | (with_reducible refine g_iList ?_)
  | (with_reducible refine g_iRng1 ?_)
  | (with_reducible refine g_iRng2 ?_)
  | (with_reducible refine g_sl ?_)
  | (with_reducible refine g_noPart ?_)
  | (with_reducible refine g_part ?_)
  | (with_reducible refine g_ex1 ?_)
  | (with_reducible refine g_bm ?_)
  | ((with_reducible refine' g_tyL (by walk_at "lk") ?_))
  | ((with_reducible refine' g_aug ?gv ?_); (case gv => exact rfl))
  | (with_reducible refine g_ipI ?_)
  | (with_reducible refine g_turn ?_)
  | (with_reducible refine g_brk ?_)
  | (with_reducible refine g_cont ?_)
  | (with_reducible refine g_sign ?_)
  | (with_reducible refine g_lst ?_)
  | (with_reducible refine g_tup ?_)
  | ((with_reducible refine' g_ixL (by assumption) ?ga ?_); (case ga => assumption))
  | ((with_reducible refine' g_ixL (SqL.of (by walk_at "lk")) ?ga ?_); (case ga => first | exact rfl | assumption))
  | ((with_reducible refine' g_ixT (SqT.of (by walk_at "lk")) ?ga ?_); (case ga => first | exact rfl | assumption))
  | ((with_reducible refine' g_lenT (SqT.of (by walk_at "lk")) ?_))
  | ((with_reducible refine' g_isiS (b := true) ?ga ?_); (case ga => decide +kernel))
  | ((with_reducible refine' g_isiS (b := false) ?ga ?_); (case ga => decide +kernel))
  | ((with_reducible refine' g_isiI (b := true) ?ga ?_); (case ga => decide +kernel))
  | ((with_reducible refine' g_isiI (b := false) ?ga ?_); (case ga => decide +kernel))
  | ((with_reducible refine' g_setL2 ?ga ?gb ?_); (case ga => exact rfl); (case gb => exact rfl))
  | ((with_reducible refine' g_setL (by walk_at "lk") ?ga ?gb ?_); (case ga => exact rfl); (case gb => exact rfl)))
local macro_rules | `(tactic| walk_at "go") => `(tactic| ((repeat walk_at "go1"); try dsimp only [List.set, List.cons_append, List.nil_append]))
/-- what least_rows makes of the lambda's reading -/
def TTleast : V → (V → Hp → VK → Prop) → Hp → VK → Prop := fun v tl H Q => ∃ (h s ra f : Addr) (rs : List Int) (fam : Fam), v = .ref h ∧ H h = some (.lst (rs.map V.int)) ∧ Wd ra f s rs fam 0 H ∧ rs.length ≤ 41 ∧
  (∀ (p : Addr) (m : Int → Bool) (j : Nat) (H1 : Hp) (Q1 : VK), Wd ra f s rs fam j H1 → j ≤ 45 → H1 p = some (.lst ((rs.filter m).map V.int)) → p ≠ s → (∀ H2, Wd ra f s rs fam (j + 1) H2 → Kp s H1 H2 → Q1 (.bl (prF rs fam m)) H2) → tl (.ref p) H1 Q1) ∧
  ∀ (p : Addr) (srt : List Int) (j : Nat) (H' : Hp), srt.Perm rs → srt.Pairwise (· ≤ ·) → Wd ra f s rs fam j H' → j ≤ 45 → Kp s H H' → H' p = some (.lst ((srt.filter (gr rs fam srt fun _ => true)).map V.int)) → p ≠ s → Q (.ref p) H'
theorem codeO_lst {c : Addr} {q : Str} {xs : List V} : CodeO c q ≠ .lst xs := fun z => by
  unfold CodeO at z
  cases z
theorem least_gets {X : Cx} {dA : Nat → Addr} (T : Txt X.K X.mg dA) {g : Addr} {cdg : Value} {qq : Str} {k : Nat} : Gets X ["rows", "present", "kept", "row", "rest", "other"] "least_rows" (defScope s_least_rows) g cdg (defBody s_least_rows) "present" qq TTleast k := by
  intro f c' s0 H Q v tl hr act hc h
  obtain ⟨h0, s, ra, ff, rs, fam, rfl, hh, hW, hrs, htl, q⟩ := h
  let K := X.K
  refine ⟨_, (pss_cons (ps_set (i := 2) sc_least_rows.nd rfl (.inl rfl) (pe_callTy (kcall_list_of K) (by rfl) T.b_list (by decide +kernel) (pa_cons (pv 0) pa_nil)))
      (pss_cons (ps_for PassesOwn.never rfl (kpi_list K (pe_callB cr_sortedI (by rfl) T.b_sorted (by decide +kernel) (pa_cons (pv 0) pa_nil))) (pg_name (i := 3) sc_least_rows.nd rfl (.inr rfl)) (pss_cons (ps_setLc (i := 4) (own := [("other", 5)]) rfl sc_least_rows.nd rfl rfl (sw_true rfl rfl rfl (by decide +kernel)) (kpi_list K (pv 2)) (blkOk_by (own := [("other", 5)]) (N := ["rows", "present", "kept", "row", "rest", "other"]) (sc := defScope s_least_rows) (by decide +kernel)) (fun _ _ _ _ _ => (pg_name (i := 5) sc_least_rows.nd rfl (.inl rfl))) (fun _ _ _ _ _ => (pts_one (pt_cmpR op_ne (pv 5) (pv 3) (nomark _)))) (fun _ _ _ _ _ => (pv 5)))
      (pss_one (ps_if (pt_val ((act _ _ _ _ (pa_cons (pe_callTy (kcall_list_of K) (by rfl) T.b_list (by decide +kernel) (pa_cons (pv 4) pa_nil)) pa_nil) rfl))) (pss_one (ps_set (i := 2) sc_least_rows.nd rfl (.inl rfl) (pv 4))) pss_nil))))
      (pss_one (ps_ret (pe_callB cr_sortedI (by rfl) T.b_sorted (by decide +kernel) (pa_cons (pv 2) pa_nil)))))), ?_⟩
  rw [show (L2.start ["rows", "present", "kept", "row", "rest", "other"] [.ref h0, .ref f] : L2.St) = [some (.ref h0), some (.ref f), none, none, none, none] from rfl]
  try simp only [WL.cxK]
  have hns : ∃ ss : List (Addr × List Int), H s = some (.lst (ss.map fun r => V.ref r.1)) := by
    obtain ⟨_, _, _, _, _, ss, a, _⟩ := hW
    exact ⟨ss, a⟩
  obtain ⟨ss0, hs0⟩ := hns
  have ncs : c' ≠ s := fun e => by
    rw [e, hs0] at hc
    exact codeO_lst (Option.some.inj hc).symm
  walk_at "go"
  intro ka nka
  have s1 := same_new (o := .lst (rs.map V.int)) nka
  have nkas : ka ≠ s := (ne_of_none hs0 nka).symm
  have hka : (upd H ka (.lst (rs.map V.int))) ka = some (.lst (rs.map V.int)) := upd_same
  generalize upd H ka (.lst (rs.map V.int)) = H1 at *
  walk_at "go"
  refine ⟨h0, rs, rfl, SqL.of (s1 _ _ hh), fun srt sp hperm hsort nsp => ?_⟩
  have s2 := same_new (o := .lst (srt.map V.int)) nsp
  have hsp : (upd H1 sp (.lst (srt.map V.int))) sp = some (.lst (srt.map V.int)) := upd_same
  have hs1 := s1 _ _ hs0
  have nsps : sp ≠ s := (ne_of_none hs1 nsp).symm
  generalize upd H1 sp (.lst (srt.map V.int)) = H2 at *
  have hsl : srt.length ≤ 41 := by rw [hperm.length_eq]; exact hrs
  refine f_list (xs := srt.map V.int) (SqL.of hsp) (fun i σ' H' => ∃ (a : Addr) (y z : Option V), σ' = [some (.ref h0), some (.ref f), some (.ref a), y, z, none] ∧ a ≠ s ∧ H' a = some (.lst ((rs.filter (gr rs fam (srt.take i) fun _ => true)).map V.int)) ∧ Wd ra ff s rs fam i H' ∧ Kp s H H' ∧ H' sp = some (.lst (srt.map V.int)))
    ⟨ka, none, none, rfl, nkas, ?_, (hW.same s1).same s2, Kp.same (s1.trans s2), hsp⟩ (fun i σ' H' _ ⟨_, _, _, _, _, _, _, _, hx⟩ => SqL.of hx) (fun i x σ' H' hx hP => ?_) (fun σ' H' hP => ?_)
  · have e : rs.filter (gr rs fam (srt.take 0) fun _ => true) = rs := by
      show rs.filter (fun _ => true) = rs
      simp
    rw [e]; exact s2 _ _ hka
  · obtain ⟨a, y, z, rfl, nas, ha, hW1, k1, hsp1⟩ := hP
    obtain ⟨r, hr', rfl⟩ := map_at hx
    have hil := lt_at hr'
    have hts : srt.take (i + 1) = srt.take i ++ [r] := by rw [List.take_succ, hr']; rfl
    rw [hts, gr_snoc]
    generalize gr rs fam (srt.take i) (fun _ => true) = m at ha ⊢
    have hfl := List.length_filter_le m rs
    walk_at "go"
    refine f_lcFilt (SqL.of ha) (by omega) (fun x => decide (x ≠ r)) (fun _ => rfl) (fun _ => rfl) (fun k n H3 Q' hn s3 hq' => ?_) (fun D nD => ?_)
    · walk_at "go"
      have : (!decide (V.int n = V.int r)) = decide (n ≠ r) := by rw [dec_int]; simp
      rw [this]
      exact hq'
    rw [filt_mn]
    have s3 := same_new (o := .lst ((rs.filter (mn m r)).map V.int)) nD
    have hD : (upd H' D (.lst ((rs.filter (mn m r)).map V.int))) D = some (.lst ((rs.filter (mn m r)).map V.int)) := upd_same
    have nDs : D ≠ s := fun e => by
      obtain ⟨_, _, _, _, _, ss, b, _⟩ := hW1
      rw [e, b] at nD; cases nD
    generalize upd H' D (.lst ((rs.filter (mn m r)).map V.int)) = H3 at *
    walk_at "go"
    refine ⟨rfl, ?_⟩
    walk_at "go"
    intro l nl
    have s4 := same_new (o := .lst ((rs.filter (mn m r)).map V.int)) nl
    have hl : (upd H3 l (.lst ((rs.filter (mn m r)).map V.int))) l = some (.lst ((rs.filter (mn m r)).map V.int)) := upd_same
    have hW3 := hW1.same s3
    have nls : l ≠ s := fun e => by
      obtain ⟨_, _, _, _, _, ss, b, _⟩ := hW3
      rw [e, b] at nl; cases nl
    have hD4 := s4 _ _ hD
    generalize upd H3 l (.lst ((rs.filter (mn m r)).map V.int)) = H4 at *
    have k4 := (k1.trans (Kp.same s3)).trans (Kp.same s4)
    refine ⟨.ref l, rfl, k4 _ _ hc ncs, htl l (mn m r) i H4 _ (hW3.same s4) (by omega) hl nls fun H5 hW5 k5 => ?_⟩
    walk_at "go"
    have k45 := k4.trans k5
    have hsp5 := k5 _ _ (s4 _ _ (s3 _ _ hsp1)) nsps
    refine g_iteB (fun e => ?_) (fun e => ?_)
    · walk_at "go"
      rw [if_pos e]
      exact ⟨D, _, _, rfl, nDs, k5 _ _ hD4 nDs, hW5, k45, hsp5⟩
    · walk_at "go"
      rw [if_neg (by rw [e]; decide)]
      exact ⟨a, _, _, rfl, nas, k5 _ _ (s4 _ _ (s3 _ _ ha)) nas, hW5, k45, hsp5⟩
  · obtain ⟨a, y, z, rfl, nas, ha, hW1, k1, hsp1⟩ := hP
    rw [List.length_map, List.take_length] at ha
    rw [List.length_map] at hW1
    walk_at "go"
    refine ⟨a, _, rfl, SqL.of ha, fun out op hp2 hs2 nop => ?_⟩
    have e : out = srt.filter (gr rs fam srt fun _ => true) := sorted_uniq (hp2.trans (hperm.symm.filter _)) hs2 (hsort.filter _)
    have nops : op ≠ s := fun e => by
      obtain ⟨_, _, _, _, _, ss, b, _⟩ := hW1
      rw [e, b] at nop; cases nop
    rw [e]
    exact q op srt _ _ hperm hsort (hW1.same (same_new nop)) (by omega) (k1.new nop) upd_same nops
end K05
set_option Elab.async false
set_option linter.all false
set_option maxRecDepth 100000
set_option maxHeartbeats 4000000
namespace K05
open PySem PySem.Spec PyProof.Rows L2 WL WLam LamX NdefX
local macro_rules | `(tactic| walk_at "lk") => `(tactic| first
  | exact upd_same
  | assumption
  | (rw [upd_ne (by assumption)]; first | exact upd_same | assumption | (rw [upd_ne (by assumption)]; first | exact upd_same | assumption | (rw [upd_ne (by assumption)]; first | exact upd_same | assumption))))
local macro_rules | `(tactic| walk_at "go1") => `(tactic| first
  | (with_reducible refine g_seq ?_)
  | (with_reducible refine g_asg ?_)
  | (with_reducible refine g_name ?_)
  | (with_reducible refine g_sub ?_)
  | ((with_reducible refine' g_var ?gv ?_); (case gv => exact rfl))
  | (with_reducible refine g_c ?_)
  | (with_reducible refine g_op ?_)
  | (with_reducible refine g_un ?_)
  | (with_reducible refine g_I0 ?_)
  | ((with_reducible refine g_I ?gc ?_); (case gc => first | assumption | decide | (show (0 : Int) < _; omega) | exact Or.inr ⟨by omega, by omega⟩ | exact Or.inl ⟨by omega, by omega⟩ | exact ⟨by omega, by omega⟩))
  | (with_reducible refine iteT ?_)
  | (with_reducible refine iteF ?_)
  | (with_reducible refine iteNT ?_)
  | (with_reducible refine iteNF ?_)
  | (with_reducible refine g_andV ?_)
  | (with_reducible refine g_orV ?_)
  | ((with_reducible refine' g_lenS (by assumption) ?_))
  | ((with_reducible refine' g_lenS (SqL.of (by walk_at "lk")) ?_))
  | (with_reducible refine g_U ?_)
  | ((with_reducible refine g_eq ?gs ?_); (case gs => rfl))
  | ((with_reducible refine g_ne ?gs ?_); (case gs => rfl))
  | (with_reducible refine g_drop ?_)
  | (with_reducible refine g_ret ?_)
  | (with_reducible refine g_next ?_)
  | (with_reducible refine g_ifS ?_)
  | (with_reducible refine g_ifE ?_)
  | (with_reducible refine g_test ?_)
  | (with_reducible refine g_tb ?_)
  | (with_reducible refine g_bl ?_)
  | (with_reducible refine g_not ?_)
  | (with_reducible refine g_and ?_)
  | (with_reducible refine g_or ?_)
  | (with_reducible refine g_nil ?_)
  | (with_reducible refine g_cons ?_)
  | (with_reducible refine g_cb ?_)
  | (with_reducible refine g_call ?_)
  | (with_reducible refine g_int ?_)
  | (with_reducible refine g_two ?_)
  | ((with_reducible refine g_lenStr ?gz ?_); (case gz => first | assumption | exact sz_le (by omega)))
  | (with_reducible refine g_m1 ?_)
  | (with_reducible refine g_isS ?_)
  | (with_reducible refine g_nn ?_)
  | (with_reducible refine g_yes ?_)
  | (with_reducible refine g_for ?_)
  | (with_reducible refine g_ckw ?_)
  | (with_reducible refine g_iZip ?_)
  | (with_reducible refine g_lc ?_)
  | (with_reducible refine g_lc2 ?_)
  | (with_reducible refine g_iList ?_)
  | (with_reducible refine g_iRng1 ?_)
  | (with_reducible refine g_iRng2 ?_)
  | (with_reducible refine g_sl ?_)
  | (with_reducible refine g_noPart ?_)
  | (with_reducible refine g_part ?_)
  | (with_reducible refine g_ex1 ?_)
  | (with_reducible refine g_bm ?_)
  | ((with_reducible refine' g_tyL (by walk_at "lk") ?_))
  | ((with_reducible refine' g_aug ?gv ?_); (case gv => exact rfl))
  | (with_reducible refine g_ipI ?_)
  | (with_reducible refine g_turn ?_)
  | (with_reducible refine g_brk ?_)
  | (with_reducible refine g_cont ?_)
  | (with_reducible refine g_sign ?_)
  | (with_reducible refine g_lst ?_)
  | (with_reducible refine g_tup ?_)
  | ((with_reducible refine' g_ixL (by assumption) ?ga ?_); (case ga => assumption))
  | ((with_reducible refine' g_ixL (SqL.of (by walk_at "lk")) ?ga ?_); (case ga => first | exact rfl | assumption))
  | ((with_reducible refine' g_ixT (SqT.of (by walk_at "lk")) ?ga ?_); (case ga => first | exact rfl | assumption))
  | ((with_reducible refine' g_lenT (SqT.of (by walk_at "lk")) ?_))
  | ((with_reducible refine' g_isiS (b := true) ?ga ?_); (case ga => decide +kernel))
  | ((with_reducible refine' g_isiS (b := false) ?ga ?_); (case ga => decide +kernel))
  | ((with_reducible refine' g_isiI (b := true) ?ga ?_); (case ga => decide +kernel))
  | ((with_reducible refine' g_isiI (b := false) ?ga ?_); (case ga => decide +kernel))
  | ((with_reducible refine' g_setL2 ?ga ?gb ?_); (case ga => exact rfl); (case gb => exact rfl))
  | ((with_reducible refine' g_setL (by walk_at "lk") ?ga ?gb ?_); (case ga => exact rfl); (case gb => exact rfl)))
local macro_rules | `(tactic| walk_at "go") => `(tactic| ((repeat walk_at "go1"); try dsimp only [List.set, List.cons_append, List.nil_append]))
def spLaw (K : PySem.W.Frag) (Pt : Addr) : Sp := fun vs H Q _ => ∃ (a : Addr) (ns : List Int), vs = [.ref a] ∧ SqL K H a (ns.map V.int) ∧ ns.length ≤ 63 ∧ H Pt = some (.tbl #[]) ∧ ∀ H', Q (.bl true) H'
theorem ok_law {P : Program} {w : World} {K : PySem.W.Frag} {mg : Str → Option Value} {base : Heap} {dA : Nat → Addr} (T : Txt K mg dA) (c__law_purse : C8.Cal P w K mg base 1 "_law_purse" (spPurse K) []) (c__law_draw : C8.Cal P w K mg base 1 "_law_draw" spDraw []) (c__law_rows : C8.Cal P w K mg base 2 "_law_rows" spRows []) (c__law_family : C8.Cal P w K mg base 2 "_law_family" (spFamily K) []) (c__law_present : C8.Cal P w K mg base 2 "_law_present" (spPresent K) []) (c__law_note : C8.Cal P w K mg base 3 "_law_note" (spNote K) []) (c__law_integers : C8.Cal P w K mg base 1 "_law_integers" (spInts K) []) (c__law_order : C8.Cal P w K mg base 2 "_law_order" (spOrder K) [])
    {f g cd Pt : Addr} {fd fdg : FuncData} (Fg : Fun K "least_rows" "least_rows" s_least_rows g fdg) (hmg : mg "least_rows" = some (.ref g)) (hbg : L2.Binds K fdg ["rows", "present"] []) (TB : TabB base mg cd Pt) (F : FunC K "law" "law" s_law f cd fd) : FnOk P w K mg base CX0 7 f fd ["script"] (spLaw K Pt) := by
  obtain ⟨oc, od, kV, doc, pm, an, cdg, ct, osl, rfl, lk, hcdg⟩ := Fg.ex
  refine F.ok sc_law (fun vs H Q E h => ?_) (fun A outer s H vs Q E hr h => ?_)
  · obtain ⟨a, ns, rfl, _⟩ := h
    rfl
  obtain ⟨a, ns, rfl, hS, hl, hPt, q⟩ := h
  refine ⟨_, (pss_cons (ps_set (i := 1) sc_law.nd rfl (.inl rfl) (C8.pe_c c__law_purse hr (by decide) (by rfl) (pa_cons (pv 0) pa_nil)))
      (pss_cons (ps_set (i := 2) sc_law.nd rfl (.inl rfl) (C8.pe_c c__law_draw hr (by decide) (by rfl) (pa_cons (pv 1) (pa_cons pe_int pa_nil))))
      (pss_cons (ps_set (i := 3) sc_law.nd rfl (.inl rfl) (C8.pe_c c__law_draw hr (by decide) (by rfl) (pa_cons (pv 1) (pa_cons pe_int pa_nil))))
      (pss_cons (ps_set (i := 4) sc_law.nd rfl (.inl rfl) (C8.pe_c c__law_draw hr (by decide) (by rfl) (pa_cons (pv 1) (pa_cons pe_int pa_nil))))
      (Evl.pss_cut (ps_if (pt_cmpR op_lt (pv 2) pe_int (nomark _)) (pss_one (ps_set (i := 4) sc_law.nd rfl (.inl rfl) (C8.pe_c c__law_draw hr (by decide) (by rfl) (pa_cons (pv 1) (pa_cons pe_int pa_nil))))) pss_nil)
      (Evl.pss_cut (ps_if (pt_cmpR op_eq (pv 2) pe_int (nomark _)) (pss_one (ps_set (i := 4) sc_law.nd rfl (.inl rfl) (C8.pe_c c__law_draw hr (by decide) (by rfl) (pa_cons (pv 1) (pa_cons pe_int pa_nil))))) pss_nil)
      (Evl.pss_cut (ps_if (PW.pt (pw_and (pt_cmpR op_gt (pv 4) pe_int (nomark _)) (pw_and1 (pt_cmpR op_eq (pv 3) pe_int (nomark _))))) (pss_one (ps_set (i := 3) sc_law.nd rfl (.inl rfl) pe_int)) pss_nil)
      (pss_cons (ps_set (i := 5) sc_law.nd rfl (.inr rfl) (C8.pe_c c__law_rows hr (by decide) (by rfl) (pa_cons (pv 1) (pa_cons (pv 4) pa_nil))))
      (pss_cons (ps_set (i := 6) sc_law.nd rfl (.inr rfl) (C8.pe_c c__law_family hr (by decide) (by rfl) (pa_cons (pv 1) (pa_cons (pv 5) (pa_cons (pv 3) pa_nil)))))
      (pss_cons (ps_set (i := 7) sc_law.nd rfl (.inl rfl) (pe_callTy (kcall_list_of K) (by rfl) T.b_list (by decide +kernel) (pa_cons (pv 5) pa_nil)))
      (pss_cons (ps_set (i := 8) sc_law.nd rfl (.inr rfl) (pe_lst pa_nil))
      (pss_cons (ps_set (i := 9) sc_law.nd rfl (.inl rfl) (pe_lamcall2 (T := [(Pt, _)]) (TT := TTleast) (a := "rows") (b := "present") (y := "some") (i0 := 7) (Ng := ["rows", "present", "kept", "row", "rest", "other"]) (N := ["some", "rows", "family", "seen"]) (fr := ["rows", "family", "seen"]) (js := [5, 6, 8]) (k := 3) (by rfl) hmg Fg.kp lk hcdg hbg sc_least_rows rfl (.inl rfl) rfl (.inl rfl) (least_gets T) TB rfl (by exact List.mem_singleton.mpr rfl) (by intro p hp _; rw [List.mem_singleton.mp hp]) (hr.mono (by decide)) rfl (nscope_by (by decide +kernel)) (ndef_free (sc := defScope s_law) (fr := ["rows", "family", "seen"]) (by decide +kernel)) (ndef_fr (sc := defScope s_law) (by decide +kernel)) rfl (fun _ _ _ _ _ _ => rfl) (fun A outer s H q cl c' f hr2 => C8.pe_c c__law_note hr2 (by decide) (by rfl) (pa_cons (pv 1) (pa_cons (pv 2) (pa_cons (pv 3) (pa_cons (pv 0) pa_nil)))))))
      (pss_cons (ps_set (i := 10) sc_law.nd rfl (.inl rfl) (pe_callB cr_sortedI (by rfl) T.b_sorted (by decide +kernel) (pa_cons (pv 5) pa_nil)))
      (pss_cons (ps_for PassesOwn.never rfl (kpi_list K (pe_callB cr_sortedI (by rfl) T.b_sorted (by decide +kernel) (pa_cons (pv 5) pa_nil))) (pg_name (i := 11) sc_law.nd rfl (.inr rfl)) (pss_cons (ps_setLc (i := 12) (own := [("one", 13)]) rfl sc_law.nd rfl rfl (sw_true rfl rfl rfl (by decide +kernel)) (kpi_list K (pv 10)) (blkOk_by (own := [("one", 13)]) (N := ["script", "purse", "large", "way", "amount", "rows", "family", "handed", "seen", "told", "left", "row", "less", "one"]) (sc := defScope s_law) (by decide +kernel)) (fun _ _ _ _ _ => (pg_name (i := 13) sc_law.nd rfl (.inl rfl))) (fun _ _ _ _ _ => (pts_one (pt_cmpR op_ne (pv 13) (pv 11) (nomark _)))) (fun _ _ _ _ _ => (pv 13)))
      (pss_one (ps_if (pt_val (C8.pe_c c__law_present hr (by decide) (by rfl) (pa_cons (pv 5) (pa_cons (pv 6) (pa_cons (pv 12) pa_nil))))) (pss_one (ps_set (i := 10) sc_law.nd rfl (.inl rfl) (pv 12))) pss_nil))))
      (pss_cons (ps_if (PW.pt (pw_or (pt_not (pt_val (C8.pe_c c__law_integers hr (by decide) (by rfl) (pa_cons (pv 7) (pa_cons (pv 5) pa_nil))))) (pw_or1 (pt_not (pt_val (C8.pe_c c__law_integers hr (by decide) (by rfl) (pa_cons (pv 9) (pa_cons (pv 10) pa_nil)))))))) (pss_one (ps_ret pe_bl)) pss_nil)
      (Evl.pss_cut (ps_if (PW.pt (pw_or (pt_cmpR op_eq (pe_ix (kix_list K) (pv 6) pe_int (fun _ _ => rfl)) pe_str (nomark _)) (pw_or1 (pt_cmpR op_eq (pe_ix (kix_list K) (pv 6) pe_int (fun _ _ => rfl)) pe_str (nomark _))))) (pss_one (ps_for PassesOwn.never rfl (kpi_list K (pv 9)) (pg_name (i := 11) sc_law.nd rfl (.inr rfl)) (pss_one (ps_if (pt_val (C8.pe_c c__law_present hr (by decide) (by rfl) (pa_cons (pv 5) (pa_cons (pv 6) (pa_cons (pe_lc (own := [("one", 13)]) rfl sc_law.nd (kpi_list K (pv 9)) (blkOk_by (own := [("one", 13)]) (N := ["script", "purse", "large", "way", "amount", "rows", "family", "handed", "seen", "told", "left", "row", "less", "one"]) (sc := defScope s_law) (by decide +kernel)) (fun _ _ _ _ _ => (pg_name (i := 13) sc_law.nd rfl (.inl rfl))) (fun _ _ _ _ _ => (pts_one (pt_cmpR op_ne (pv 13) (pv 11) (nomark _)))) (fun _ _ _ _ _ => (pv 13))) pa_nil))))) (pss_one (ps_ret pe_bl)) pss_nil)))) pss_nil)
      (pss_cons (ps_for PassesOwn.never rfl (kpi_list K (pv 8)) (pg_name (i := 13) sc_law.nd rfl (.inl rfl)) (pss_one (ps_if (pt_not (pt_val (C8.pe_c c__law_order hr (by decide) (by rfl) (pa_cons (pv 5) (pa_cons (pv 13) pa_nil))))) (pss_one (ps_ret pe_bl)) pss_nil)))
      (pss_one (ps_ret pe_bl))))))))))))))))))), ?_⟩
  rw [show (L2.start ["script", "purse", "large", "way", "amount", "rows", "family", "handed", "seen", "told", "left", "row", "less", "one"] [.ref a] : L2.St) = [some (.ref a), none, none, none, none, none, none, none, none, none, none, none, none, none] from rfl]
  try simp only [WL.cxK]
  walk_at "go"
  refine ⟨a, ns, rfl, hS, hl, fun c b H1 s1 B1 => ?_⟩
  have hPt1 := s1 _ _ hPt
  have nPb : Pt ≠ b := fun e => by
    obtain ⟨_, _, _, _, _, _, hb, _⟩ := B1
    rw [e, hb] at hPt1; cases hPt1
  walk_at "go"
  refine g_draw B1 (by decide) (by decide) fun lg H2 lg0 lg1 k2 B2 => ?_
  walk_at "go"
  refine g_draw B2 (by decide) (by decide) fun wy H3 wy0 wy1 k3 B3 => ?_
  walk_at "go"
  refine g_draw B3 (by decide) (by decide) fun am H4 am0 am1 k4 B4 => ?_
  walk_at "go"
  have hPt4 := k4 _ _ (k3 _ _ (k2 _ _ hPt1 nPb) nPb) nPb
  refine ⟨fun σ' H' => ∃ am : Int, σ' = [some (.ref a), some (.ref b), some (.int lg), some (.int wy), some (.int am), none, none, none, none, none, none, none, none, none] ∧ 0 ≤ am ∧ am ≤ 40 ∧ Kp b H4 H' ∧ Purse c b H', ?_, fun σ' H' hm => ?_⟩
  · walk_at "go"
    refine g_ite (fun e => ?_) (fun e => ?_)
    · walk_at "go"
      refine g_draw B4 (by decide) (by decide) fun d H5 d0 d1 k5 B5 => ?_
      walk_at "go"
      exact ⟨d, rfl, d0, by omega, k5, B5⟩
    · walk_at "go"
      exact ⟨am, rfl, am0, by omega, Kp.refl _, B4⟩
  clear am0 am1 am
  obtain ⟨am, rfl, am0, am1, k5, B5⟩ := hm
  refine ⟨fun σ2 H2 => ∃ am : Int, σ2 = [some (.ref a), some (.ref b), some (.int lg), some (.int wy), some (.int am), none, none, none, none, none, none, none, none, none] ∧ 0 ≤ am ∧ am ≤ 40 ∧ Kp b H' H2 ∧ Purse c b H2, ?_, fun σ2 H2 hm => ?_⟩
  · walk_at "go"
    refine g_iteI (fun e => ?_) (fun e => ?_)
    · walk_at "go"
      refine g_draw B5 (by decide) (by decide) fun d H5 d0 d1 k5 B5 => ?_
      walk_at "go"
      exact ⟨d, rfl, d0, by omega, k5, B5⟩
    · walk_at "go"
      exact ⟨am, rfl, am0, by omega, Kp.refl _, B5⟩
  clear am0 am1 am
  obtain ⟨am, rfl, am0, am1, k6, B6⟩ := hm
  obtain ⟨n, rfl⟩ : ∃ n : Nat, am = n := ⟨am.toNat, by omega⟩
  refine ⟨fun σ3 H3 => ∃ way : Nat, σ3 = [some (.ref a), some (.ref b), some (.int lg), some (.int (way : Int)), some (.int n), none, none, none, none, none, none, none, none, none] ∧ (way = 0 → n ≤ 5) ∧ H3 = H2, ?_, fun σ3 H3 hm => ?_⟩
  · obtain ⟨wn, rfl⟩ : ∃ n : Nat, wy = n := ⟨wy.toNat, by omega⟩
    walk_at "go"
    refine g_ite (fun e => ?_) (fun e => ?_)
    · walk_at "go"
      refine g_iteI (fun e2 => ?_) (fun e2 => ?_)
      · walk_at "go"
        exact ⟨1, rfl, (fun h => by cases h), rfl⟩
      · walk_at "go"
        exact ⟨wn, rfl, fun h => absurd (by rw [h]; rfl) e2, rfl⟩
    · walk_at "go"
      exact ⟨wn, rfl, fun _ => by omega, rfl⟩
  obtain ⟨way, rfl, hw0, rfl⟩ := hm
  have hPt6 := k6 _ _ (k5 _ _ hPt4 nPb) nPb
  walk_at "go"
  refine ⟨b, c, n, rfl, B6, by omega, fun ra rs H7 nra k7 B7 hra hrl hnd => ?_⟩
  have nrab : ra ≠ b := (B6.nb nra).1
  have hPt7 := k7 _ _ hPt6 nPb
  walk_at "go"
  refine ⟨b, c, ra, rs, way, rfl, B7, hra, nrab, by omega, fun h => by have := hw0 h; omega, fun fm fam H8 k8 hF hok => ?_⟩
  have hPt8 := k8 _ _ hPt7 nPb
  have hra8 := k8 _ _ hra nrab
  have hrs : rs.length ≤ 41 := by omega
  walk_at "go"
  intro hd nhd
  have s9 := same_new (o := .lst (rs.map V.int)) nhd
  have hhd : (upd H8 hd (.lst (rs.map V.int))) hd = some (.lst (rs.map V.int)) := upd_same
  generalize upd H8 hd (.lst (rs.map V.int)) = H9 at *
  have hPt9 := s9 _ _ hPt8
  have hra9 := s9 _ _ hra8
  have hF9 := hF.keep s9
  walk_at "go"
  refine ⟨by decide, fun sn nsn => ?_⟩
  walk_at "go"
  refine ⟨_, rfl, ?_, fun H11 eN _ => ?_⟩
  · intro p hp
    rw [List.mem_singleton.mp hp]
    exact TabS.nil (by rw [upd_ne (ne_of_none hPt9 nsn)]; exact hPt9)
  have up : ∀ x xs, H9 x = some (.lst xs) → H11 x = some (.lst xs) := fun x xs e => eN _ _ (by rw [upd_ne (ne_of_none e nsn)]; exact e) (fun ps h => by cases h)
  have nhs : hd ≠ sn := ne_of_none hhd nsn
  have nras : ra ≠ sn := ne_of_none hra9 nsn
  have hsn : H11 sn = some (.lst []) := eN _ _ upd_same (fun ps h => by cases h)
  have hW0 : Wd ra fm sn rs fam 0 H11 := by
    refine ⟨fun x => if x = sn then none else H11 x, if_pos rfl, (if_neg nras).trans (up _ _ hra9), hF9.keepL fun x xs e => ?_, fun x o e _ => ?_, [], hsn, rfl, fun _ h => by cases h⟩
    · exact (if_neg (ne_of_none e nsn)).trans (up _ _ e)
    · have e : (if x = sn then none else H11 x) = some o := e
      split at e
      · cases e
      · exact e
  refine ⟨hd, sn, ra, fm, rs, fam, rfl, up _ _ hhd, hW0, hrs, fun p' m j H1' Q1 hW hj hp nps hq => ?_, fun td srt j H12 hperm hsort hW hj k12 htd ntd => ?_⟩
  · walk_at "go"
    exact ⟨ra, fm, sn, p', rs, fam, m, j, rfl, hW, hok, hrs, by omega, hp, nps, hq⟩
  have hhd12 := k12 _ _ (up _ _ hhd) nhs
  have hra12 := hW.rows
  have hF12 := hW.fam
  obtain ⟨_, _, _, _, _, ss, hss, hssl, hssr⟩ := hW
  have memS : ∀ (m : Int → Bool), ∀ x ∈ rs, decide (x ∈ srt.filter m) = m x := fun m x hx => mem_filt x (hperm.mem_iff.mpr hx)
  have hsl : srt.length ≤ 41 := by rw [hperm.length_eq]; exact hrs
  walk_at "go"
  refine ⟨ra, rs, rfl, SqL.of hra12, fun srt2 lp perm2 sort2 nlp => ?_⟩
  have e2 : srt2 = srt := sorted_uniq (perm2.trans hperm.symm) sort2 hsort
  subst e2
  have s13 := same_new (o := .lst (srt2.map V.int)) nlp
  have hlp : (upd H12 lp (.lst (srt2.map V.int))) lp = some (.lst (srt2.map V.int)) := upd_same
  generalize upd H12 lp (.lst (srt2.map V.int)) = H13 at *
  walk_at "go"
  refine ⟨ra, rs, rfl, SqL.of (s13 _ _ hra12), fun srt3 sp perm3 sort3 nsp => ?_⟩
  have e3 : srt3 = srt2 := sorted_uniq (perm3.trans hperm.symm) sort3 hsort
  subst e3
  have s14 := same_new (o := .lst (srt3.map V.int)) nsp
  have hsp : (upd H13 sp (.lst (srt3.map V.int))) sp = some (.lst (srt3.map V.int)) := upd_same
  generalize upd H13 sp (.lst (srt3.map V.int)) = H14 at *
  have s124 := s13.trans s14
  refine f_list (xs := srt3.map V.int) (SqL.of hsp) (fun i σ' H' => ∃ (la : Addr) (y z u : Option V), σ' = [some (.ref a), some (.ref b), some (.int lg), some (.int (way : Int)), some (.int n), some (.ref ra), some (.ref fm), some (.ref hd), some (.ref sn), some (.ref td), some (.ref la), y, z, u] ∧ H' la = some (.lst ((srt3.filter (gr rs fam (srt3.take i) fun _ => true)).map V.int)) ∧ Same H14 H')
    ⟨lp, none, none, none, rfl, ?_, Same.refl _⟩ (fun i σ' H' _ ⟨_, _, _, _, _, _, s⟩ => SqL.of (s _ _ hsp)) (fun i x σ' H' hx hP => ?_) (fun σ' H' hP => ?_)
  · have e : srt3.filter (gr rs fam (srt3.take 0) fun _ => true) = srt3 := by
      show srt3.filter (fun _ => true) = srt3
      simp
    rw [e]; exact s14 _ _ hlp
  · obtain ⟨la, y, z, u, rfl, hla, s15⟩ := hP
    obtain ⟨r, hr', rfl⟩ := map_at hx
    have hts : srt3.take (i + 1) = srt3.take i ++ [r] := by rw [List.take_succ, hr']; rfl
    rw [hts, gr_snoc]
    generalize gr rs fam (srt3.take i) (fun _ => true) = m at hla ⊢
    have hfl := List.length_filter_le m srt3
    walk_at "go"
    refine f_lcFilt (SqL.of hla) (by omega) (fun x => decide (x ≠ r)) (fun _ => rfl) (fun _ => rfl) (fun k n H3 Q' hn s3 hq' => ?_) (fun D nD => ?_)
    · walk_at "go"
      have : (!decide (V.int n = V.int r)) = decide (n ≠ r) := by rw [dec_int]; simp
      rw [this]
      exact hq'
    rw [filt_mn]
    have s16 := same_new (o := .lst ((srt3.filter (mn m r)).map V.int)) nD
    have hD : (upd H' D (.lst ((srt3.filter (mn m r)).map V.int))) D = some (.lst ((srt3.filter (mn m r)).map V.int)) := upd_same
    generalize upd H' D (.lst ((srt3.filter (mn m r)).map V.int)) = H16 at *
    have s126 := (s124.trans s15).trans s16
    walk_at "go"
    refine ⟨ra, fm, D, rs, srt3.filter (mn m r), fam, rfl, s126 _ _ hra12, hF12.keep s126, hok, hrs, hD, fun H17 s17 => ?_⟩
    rw [prF_congr hok (memS (mn m r))]
    walk_at "go"
    refine g_iteB (fun e => ?_) (fun e => ?_)
    · walk_at "go"
      rw [if_pos e]
      exact ⟨D, _, _, _, rfl, s17 _ _ hD, (s15.trans s16).trans s17⟩
    · walk_at "go"
      rw [if_neg (by rw [e]; decide)]
      exact ⟨la, _, _, _, rfl, s17 _ _ (s16 _ _ hla), (s15.trans s16).trans s17⟩
  obtain ⟨la, y, z, u, rfl, hla, s15⟩ := hP
  rw [List.length_map, List.take_length] at hla
  have s125 := s124.trans s15
  generalize hfm : gr rs fam srt3 (fun _ => true) = fmm at hla htd
  have htl : (srt3.filter fmm).length ≤ 41 := Nat.le_trans (List.length_filter_le _ _) hsl
  walk_at "go"
  refine ⟨hd, ra, rs, rfl, s125 _ _ hhd12, s125 _ _ hra12, by omega, ?_⟩
  walk_at "go"
  refine ⟨td, la, srt3.filter fmm, rfl, s125 _ _ htd, hla, by omega, ?_⟩
  walk_at "go"
  have hra15 := s125 _ _ hra12
  have hF15 := hF12.keep s125
  have htd15 := s125 _ _ htd
  have hss15 := s125 _ _ hss
  refine ⟨fun σ2 H2 => ∃ (y z u : Option V), σ2 = [some (.ref a), some (.ref b), some (.int lg), some (.int (way : Int)), some (.int n), some (.ref ra), some (.ref fm), some (.ref hd), some (.ref sn), some (.ref td), some (.ref la), y, z, u] ∧ Same H' H2, ?_, fun σ2 H2 hm => ?_⟩
  · have hF0 := hF15
    cases fam with
    | any bits =>
      obtain ⟨qq, h1, _⟩ := hF15
      walk_at "go"
      rw [decide_eq_false (show ¬ V.str (Str.ofString "any") = V.str (Str.ofString "holds") by decide +kernel)]
      walk_at "go"
      rw [decide_eq_false (show ¬ V.str (Str.ofString "any") = V.str (Str.ofString "weight") by decide +kernel)]
      walk_at "go"
      exact ⟨_, _, _, rfl, Same.refl _⟩
    | rest ws md r =>
      obtain ⟨qq, h1, _⟩ := hF15
      walk_at "go"
      rw [decide_eq_false (show ¬ V.str (Str.ofString "rest") = V.str (Str.ofString "holds") by decide +kernel)]
      walk_at "go"
      rw [decide_eq_false (show ¬ V.str (Str.ofString "rest") = V.str (Str.ofString "weight") by decide +kernel)]
      walk_at "go"
      exact ⟨_, _, _, rfl, Same.refl _⟩
    | holds sets =>
      have mo : Mono (.holds sets) := trivial
      obtain ⟨qq, pps, h1, _⟩ := hF15
      walk_at "go"
      rw [decide_eq_true rfl]
      walk_at "go"
      refine f_list (xs := (srt3.filter fmm).map V.int) (SqL.of htd15) (fun i σ' H2 => ∃ (y z u : Option V), σ' = [some (.ref a), some (.ref b), some (.int lg), some (.int (way : Int)), some (.int n), some (.ref ra), some (.ref fm), some (.ref hd), some (.ref sn), some (.ref td), some (.ref la), y, z, u] ∧ Same H' H2)
        ⟨_, _, _, rfl, Same.refl _⟩ (fun i σ' H2 _ ⟨_, _, _, _, s⟩ => SqL.of (s _ _ htd15)) (fun i x σ' H2 hx hP => ?_) (fun σ' H2 hP => ?_)
      · obtain ⟨y, z, u, rfl, s16⟩ := hP
        obtain ⟨r, hr', rfl⟩ := map_at hx
        have hrm := List.mem_of_getElem? hr'
        have gm := gr_min hok mo srt3 (fun _ => true) r (List.mem_filter.mp hrm).1 (by rw [hfm]; exact (List.mem_filter.mp hrm).2)
        rw [hfm] at gm
        have htd16 := s16 _ _ htd15
        walk_at "go"
        refine f_lcFilt (SqL.of htd16) (by omega) (fun x => decide (x ≠ r)) (fun _ => rfl) (fun _ => rfl) (fun k n H3 Q' hn s3 hq' => ?_) (fun D nD => ?_)
        · walk_at "go"
          have : (!decide (V.int n = V.int r)) = decide (n ≠ r) := by rw [dec_int]; simp
          rw [this]
          exact hq'
        rw [filt_mn]
        have s17 := same_new (o := .lst ((srt3.filter (mn fmm r)).map V.int)) nD
        have hD : (upd H2 D (.lst ((srt3.filter (mn fmm r)).map V.int))) D = some (.lst ((srt3.filter (mn fmm r)).map V.int)) := upd_same
        generalize upd H2 D (.lst ((srt3.filter (mn fmm r)).map V.int)) = H17 at *
        have s167 := s16.trans s17
        walk_at "go"
        refine ⟨ra, fm, D, rs, srt3.filter (mn fmm r), _, rfl, s167 _ _ hra15, hF0.keep s167, hok, hrs, hD, fun H18 s18 => ?_⟩
        rw [prF_congr hok (memS (mn fmm r)), gm]
        walk_at "go"
        exact ⟨_, _, _, rfl, s167.trans s18⟩
      · obtain ⟨y, z, u, rfl, s16⟩ := hP
        exact ⟨_, _, _, rfl, s16⟩
    | weight ws bd =>
      have mo : Mono (.weight ws bd) := trivial
      obtain ⟨qq, h1, _⟩ := hF15
      walk_at "go"
      rw [decide_eq_false (show ¬ V.str (Str.ofString "weight") = V.str (Str.ofString "holds") by decide +kernel)]
      walk_at "go"
      rw [decide_eq_true rfl]
      walk_at "go"
      refine f_list (xs := (srt3.filter fmm).map V.int) (SqL.of htd15) (fun i σ' H2 => ∃ (y z u : Option V), σ' = [some (.ref a), some (.ref b), some (.int lg), some (.int (way : Int)), some (.int n), some (.ref ra), some (.ref fm), some (.ref hd), some (.ref sn), some (.ref td), some (.ref la), y, z, u] ∧ Same H' H2)
        ⟨_, _, _, rfl, Same.refl _⟩ (fun i σ' H2 _ ⟨_, _, _, _, s⟩ => SqL.of (s _ _ htd15)) (fun i x σ' H2 hx hP => ?_) (fun σ' H2 hP => ?_)
      · obtain ⟨y, z, u, rfl, s16⟩ := hP
        obtain ⟨r, hr', rfl⟩ := map_at hx
        have hrm := List.mem_of_getElem? hr'
        have gm := gr_min hok mo srt3 (fun _ => true) r (List.mem_filter.mp hrm).1 (by rw [hfm]; exact (List.mem_filter.mp hrm).2)
        rw [hfm] at gm
        have htd16 := s16 _ _ htd15
        walk_at "go"
        refine f_lcFilt (SqL.of htd16) (by omega) (fun x => decide (x ≠ r)) (fun _ => rfl) (fun _ => rfl) (fun k n H3 Q' hn s3 hq' => ?_) (fun D nD => ?_)
        · walk_at "go"
          have : (!decide (V.int n = V.int r)) = decide (n ≠ r) := by rw [dec_int]; simp
          rw [this]
          exact hq'
        rw [filt_mn]
        have s17 := same_new (o := .lst ((srt3.filter (mn fmm r)).map V.int)) nD
        have hD : (upd H2 D (.lst ((srt3.filter (mn fmm r)).map V.int))) D = some (.lst ((srt3.filter (mn fmm r)).map V.int)) := upd_same
        generalize upd H2 D (.lst ((srt3.filter (mn fmm r)).map V.int)) = H17 at *
        have s167 := s16.trans s17
        walk_at "go"
        refine ⟨ra, fm, D, rs, srt3.filter (mn fmm r), _, rfl, s167 _ _ hra15, hF0.keep s167, hok, hrs, hD, fun H18 s18 => ?_⟩
        rw [prF_congr hok (memS (mn fmm r)), gm]
        walk_at "go"
        exact ⟨_, _, _, rfl, s167.trans s18⟩
      · obtain ⟨y, z, u, rfl, s16⟩ := hP
        exact ⟨_, _, _, rfl, s16⟩
  obtain ⟨y, z, u, rfl, s16⟩ := hm
  walk_at "go"
  refine f_list (xs := ss.map fun r => V.ref r.1) (SqL.of (s16 _ _ hss15)) (fun i σ' H3 => ∃ (y z u : Option V), σ' = [some (.ref a), some (.ref b), some (.int lg), some (.int (way : Int)), some (.int n), some (.ref ra), some (.ref fm), some (.ref hd), some (.ref sn), some (.ref td), some (.ref la), y, z, u] ∧ Same H' H3)
    ⟨_, _, _, rfl, s16⟩ (fun i σ' H3 _ ⟨_, _, _, _, s⟩ => SqL.of (s _ _ hss15)) (fun i x σ' H3 hx hP => ?_) (fun σ' H3 hP => ?_)
  · obtain ⟨y, z, u, rfl, s17⟩ := hP
    obtain ⟨r, hr', rfl⟩ := map_atG hx
    obtain ⟨_, h2, m, h3⟩ := hssr r (List.mem_of_getElem? hr')
    rw [h3] at h2
    walk_at "go"
    refine ⟨ra, r.1, rs, m, rfl, s17 _ _ hra15, s17 _ _ (s125 _ _ h2), hrs, fun H4 s4 => ?_⟩
    walk_at "go"
    exact ⟨_, _, _, rfl, s17.trans s4⟩
  · obtain ⟨y, z, u, rfl, s17⟩ := hP
    walk_at "go"
    exact q _
end K05
set_option Elab.async false
set_option linter.all false
set_option maxRecDepth 100000
set_option maxHeartbeats 4000000
namespace K05
open PySem PySem.Spec PyProof.Rows L2 WL WLam LamX NdefX
theorem tabIn_of {K : PySem.W.Frag} {x : Str} {f cl Pl : Addr} {oc occ : Value} {od ocd : Option Addr} {fd : FuncData} {sl ocs : Array (Option Value)} {vs : Array Value} (a : PySem.W.nsIn K mainGlobals x = some (some (.ref f))) (l : K.lookup f = some ⟨oc, od, .func fd, sl⟩) (hc : fd.code = .ref cl)
    (lc : K.lookup cl = some ⟨occ, ocd, .fields vs, ocs⟩) (vp : vs[11]? = some (.ref Pl)) : PySem.W.tabIn K x = some (cl, Pl) := by
  unfold PySem.W.tabIn
  simp only [a, l, hc, lc, vp]
theorem all_mk {l : PySem.W.OpenLaw} {w : World} {K : PySem.W.Frag} {h : Heap} {mg : Str → Option Value} {fa f0 f1 f2 f3 f4 f5 f6 f7 f8 f9 f10 : Addr} (X : K.In h) (G : h.Ns mainGlobals mg) (hfa : mg "law" = some (.ref fa)) (tabs : ∀ c P, PySem.W.tabIn K "law" = some (c, P) → PySem.W.CodeHd h c P ∧ h.get? P = some { cls := .none, data := .fields #[] }) {cl Pl : Addr}
    {od0 an0 od1 an1 od2 an2 od3 an3 od4 an4 od5 an5 od6 an6 od7 an7 od8 an8 od9 an9 od10 an10 : Option Addr} {sl0 sl1 sl2 sl3 sl4 sl5 sl6 sl7 sl8 sl9 sl10 : Array (Option Value)} {oc0 kV0 dc0 pm0 cd0 ct0 oc1 kV1 dc1 pm1 cd1 ct1 oc2 kV2 dc2 pm2 cd2 ct2 oc3 kV3 dc3 pm3 cd3 ct3 oc4 kV4 dc4 pm4 cd4 ct4 oc5 kV5 dc5 pm5 cd5 ct5 oc6 kV6 dc6 pm6 cd6 ct6 oc7 kV7 dc7 pm7 cd7 ct7 oc8 kV8 dc8 pm8 cd8 ct8 oc9 kV9 dc9 pm9 cd9 ct9 oc10 kV10 dc10 pm10 ct10 : Value}
    (a0 : PySem.W.nsIn K mainGlobals "least_rows" = some (some (.ref f0))) (l0 : K.lookup f0 = some ⟨oc0, od0, .func (PySem.W.fnOf "least_rows" "least_rows" (defArgs s_least_rows) (defBody s_least_rows) (defScope s_least_rows) .none kV0 dc0 pm0 an0 cd0 ct0), sl0⟩) (c0 : PySem.W.codeIn K cd0 "least_rows" = true) (k0 : PySem.W.keepIn K (.ref f0) = true)
    (a1 : PySem.W.nsIn K mainGlobals "_law_purse" = some (some (.ref f1))) (l1 : K.lookup f1 = some ⟨oc1, od1, .func (PySem.W.fnOf "_law_purse" "_law_purse" (defArgs s__law_purse) (defBody s__law_purse) (defScope s__law_purse) .none kV1 dc1 pm1 an1 cd1 ct1), sl1⟩) (c1 : PySem.W.codeIn K cd1 "_law_purse" = true) (k1 : PySem.W.keepIn K (.ref f1) = true)
    (a2 : PySem.W.nsIn K mainGlobals "_law_draw" = some (some (.ref f2))) (l2 : K.lookup f2 = some ⟨oc2, od2, .func (PySem.W.fnOf "_law_draw" "_law_draw" (defArgs s__law_draw) (defBody s__law_draw) (defScope s__law_draw) .none kV2 dc2 pm2 an2 cd2 ct2), sl2⟩) (c2 : PySem.W.codeIn K cd2 "_law_draw" = true) (k2 : PySem.W.keepIn K (.ref f2) = true)
    (a3 : PySem.W.nsIn K mainGlobals "_law_rows" = some (some (.ref f3))) (l3 : K.lookup f3 = some ⟨oc3, od3, .func (PySem.W.fnOf "_law_rows" "_law_rows" (defArgs s__law_rows) (defBody s__law_rows) (defScope s__law_rows) .none kV3 dc3 pm3 an3 cd3 ct3), sl3⟩) (c3 : PySem.W.codeIn K cd3 "_law_rows" = true) (k3 : PySem.W.keepIn K (.ref f3) = true)
    (a4 : PySem.W.nsIn K mainGlobals "_law_family" = some (some (.ref f4))) (l4 : K.lookup f4 = some ⟨oc4, od4, .func (PySem.W.fnOf "_law_family" "_law_family" (defArgs s__law_family) (defBody s__law_family) (defScope s__law_family) .none kV4 dc4 pm4 an4 cd4 ct4), sl4⟩) (c4 : PySem.W.codeIn K cd4 "_law_family" = true) (k4 : PySem.W.keepIn K (.ref f4) = true)
    (a5 : PySem.W.nsIn K mainGlobals "_law_holds" = some (some (.ref f5))) (l5 : K.lookup f5 = some ⟨oc5, od5, .func (PySem.W.fnOf "_law_holds" "_law_holds" (defArgs s__law_holds) (defBody s__law_holds) (defScope s__law_holds) .none kV5 dc5 pm5 an5 cd5 ct5), sl5⟩) (c5 : PySem.W.codeIn K cd5 "_law_holds" = true) (k5 : PySem.W.keepIn K (.ref f5) = true)
    (a6 : PySem.W.nsIn K mainGlobals "_law_present" = some (some (.ref f6))) (l6 : K.lookup f6 = some ⟨oc6, od6, .func (PySem.W.fnOf "_law_present" "_law_present" (defArgs s__law_present) (defBody s__law_present) (defScope s__law_present) .none kV6 dc6 pm6 an6 cd6 ct6), sl6⟩) (c6 : PySem.W.codeIn K cd6 "_law_present" = true) (k6 : PySem.W.keepIn K (.ref f6) = true)
    (a7 : PySem.W.nsIn K mainGlobals "_law_note" = some (some (.ref f7))) (l7 : K.lookup f7 = some ⟨oc7, od7, .func (PySem.W.fnOf "_law_note" "_law_note" (defArgs s__law_note) (defBody s__law_note) (defScope s__law_note) .none kV7 dc7 pm7 an7 cd7 ct7), sl7⟩) (c7 : PySem.W.codeIn K cd7 "_law_note" = true) (k7 : PySem.W.keepIn K (.ref f7) = true)
    (a8 : PySem.W.nsIn K mainGlobals "_law_integers" = some (some (.ref f8))) (l8 : K.lookup f8 = some ⟨oc8, od8, .func (PySem.W.fnOf "_law_integers" "_law_integers" (defArgs s__law_integers) (defBody s__law_integers) (defScope s__law_integers) .none kV8 dc8 pm8 an8 cd8 ct8), sl8⟩) (c8 : PySem.W.codeIn K cd8 "_law_integers" = true) (k8 : PySem.W.keepIn K (.ref f8) = true)
    (a9 : PySem.W.nsIn K mainGlobals "_law_order" = some (some (.ref f9))) (l9 : K.lookup f9 = some ⟨oc9, od9, .func (PySem.W.fnOf "_law_order" "_law_order" (defArgs s__law_order) (defBody s__law_order) (defScope s__law_order) .none kV9 dc9 pm9 an9 cd9 ct9), sl9⟩) (c9 : PySem.W.codeIn K cd9 "_law_order" = true) (k9 : PySem.W.keepIn K (.ref f9) = true)
    (a10 : PySem.W.nsIn K mainGlobals "law" = some (some (.ref f10))) (l10 : K.lookup f10 = some ⟨oc10, od10, .func (PySem.W.fnOf "law" "law" (defArgs s_law) (defBody s_law) (defScope s_law) .none kV10 dc10 pm10 an10 (.ref cl) ct10), sl10⟩) (c10 : PySem.W.codeIn K (.ref cl) "law" = true) (k10 : PySem.W.keepIn K (.ref f10) = true)
    (z_bool : PySem.W.nsIn K mainGlobals "bool" = some none)
    (z_int : PySem.W.nsIn K mainGlobals "int" = some none)
    (z_isinstance : PySem.W.nsIn K mainGlobals "isinstance" = some none)
    (z_len : PySem.W.nsIn K mainGlobals "len" = some none)
    (z_list : PySem.W.nsIn K mainGlobals "list" = some none)
    (z_max : PySem.W.nsIn K mainGlobals "max" = some none)
    (z_range : PySem.W.nsIn K mainGlobals "range" = some none)
    (z_sorted : PySem.W.nsIn K mainGlobals "sorted" = some none)
    (z_sum : PySem.W.nsIn K mainGlobals "sum" = some none)
    {occ : Value} {ocd : Option Addr} {ovs : Array Value} {ocs : Array (Option Value)} (lc : K.lookup cl = some ⟨occ, ocd, .fields ovs, ocs⟩) (vp : ovs[11]? = some (.ref Pl)) (nP : K.lookup Pl = none) : LamX.LawAtS l w K L2.CX0 7 63 "script" mg fa h := by
  have e := hfa.symm.trans (PySem.W.mg_of X G a10)
  cases e
  have T : Txt K mg (fun n => match n with  | _ => 0) := ⟨PySem.W.mg_none_of X G z_bool, PySem.W.mg_none_of X G z_int, PySem.W.mg_none_of X G z_isinstance, PySem.W.mg_none_of X G z_len, PySem.W.mg_none_of X G z_list, PySem.W.mg_none_of X G z_max, PySem.W.mg_none_of X G z_range, PySem.W.mg_none_of X G z_sorted, PySem.W.mg_none_of X G z_sum⟩
  have F0 := fun_mk (st := s_least_rows) l0 c0 k0
  have F1 := fun_mk (st := s__law_purse) l1 c1 k1
  have F2 := fun_mk (st := s__law_draw) l2 c2 k2
  have F3 := fun_mk (st := s__law_rows) l3 c3 k3
  have F4 := fun_mk (st := s__law_family) l4 c4 k4
  have F5 := fun_mk (st := s__law_holds) l5 c5 k5
  have F6 := fun_mk (st := s__law_present) l6 c6 k6
  have F7 := fun_mk (st := s__law_note) l7 c7 k7
  have F8 := fun_mk (st := s__law_integers) l8 c8 k8
  have F9 := fun_mk (st := s__law_order) l9 c9 k9
  have F10 : WLam.FunC K "law" "law" s_law fa cl _ := ⟨⟨_, _, _, _, _, _, _, _, rfl, l10, c10⟩⟩
  have b0 := F0.binds (ps := ["rows", "present"]) fun _ _ _ _ _ _ us hl => match us, hl with | [_, _], _ => rfl
  have b1 := F1.binds (ps := ["script"]) fun _ _ _ _ _ _ us hl => match us, hl with | [_], _ => rfl
  have b2 := F2.binds (ps := ["purse", "many"]) fun _ _ _ _ _ _ us hl => match us, hl with | [_, _], _ => rfl
  have b3 := F3.binds (ps := ["purse", "amount"]) fun _ _ _ _ _ _ us hl => match us, hl with | [_, _], _ => rfl
  have b4 := F4.binds (ps := ["purse", "rows", "way"]) fun _ _ _ _ _ _ us hl => match us, hl with | [_, _, _], _ => rfl
  have b5 := F5.binds (ps := ["sets", "some"]) fun _ _ _ _ _ _ us hl => match us, hl with | [_, _], _ => rfl
  have b6 := F6.binds (ps := ["rows", "family", "some"]) fun _ _ _ _ _ _ us hl => match us, hl with | [_, _, _], _ => rfl
  have b7 := F7.binds (ps := ["rows", "family", "seen", "some"]) fun _ _ _ _ _ _ us hl => match us, hl with | [_, _, _, _], _ => rfl
  have b8 := F8.binds (ps := ["told", "due"]) fun _ _ _ _ _ _ us hl => match us, hl with | [_, _], _ => rfl
  have b9 := F9.binds (ps := ["rows", "one"]) fun _ _ _ _ _ _ us hl => match us, hl with | [_, _], _ => rfl
  obtain ⟨tb1, tb2⟩ := tabs _ _ (tabIn_of a10 l10 rfl lc vp)
  refine ⟨PySem.W.fnOf "law" "law" (defArgs s_law) (defBody s_law) (defScope s_law) .none kV10 dc10 pm10 an10 (.ref cl) ct10, [(cl, Pl)], spLaw K Pl, fun p hp => by rw [List.mem_singleton.mp hp]; exact tb2, fun p hp => by rw [List.mem_singleton.mp hp]; exact nP, fun p hp => by rw [List.mem_singleton.mp hp]; exact tb1, fun s v => .of_eq rfl, fun H a ns hl _ hT hS => ⟨a, ns, rfl, hS, hl, hT (cl, Pl) (List.mem_singleton.mpr rfl), fun _ => rfl⟩, fun base _ _ TB => ?_⟩
  have c__law_purse : C8.Cal l.prog w K mg base 1 "_law_purse" (spPurse K) [] := ⟨_, _, ["script"], [], ok__law_purse T  F1, PySem.W.mg_of X G a1, k1, b1, .nil⟩
  have c__law_draw : C8.Cal l.prog w K mg base 1 "_law_draw" spDraw [] := ⟨_, _, ["purse", "many"], [], ok__law_draw T  F2, PySem.W.mg_of X G a2, k2, b2, .nil⟩
  have c__law_rows : C8.Cal l.prog w K mg base 2 "_law_rows" spRows [] := ⟨_, _, ["purse", "amount"], [], ok__law_rows T c__law_draw F3, PySem.W.mg_of X G a3, k3, b3, .nil⟩
  have c__law_family : C8.Cal l.prog w K mg base 2 "_law_family" (spFamily K) [] := ⟨_, _, ["purse", "rows", "way"], [], ok__law_family T c__law_draw F4, PySem.W.mg_of X G a4, k4, b4, .nil⟩
  have c__law_holds : C8.Cal l.prog w K mg base 1 "_law_holds" (spHolds K) [] := ⟨_, _, ["sets", "some"], [], ok__law_holds T  F5, PySem.W.mg_of X G a5, k5, b5, .nil⟩
  have c__law_present : C8.Cal l.prog w K mg base 2 "_law_present" (spPresent K) [] := ⟨_, _, ["rows", "family", "some"], [], ok__law_present T c__law_holds F6, PySem.W.mg_of X G a6, k6, b6, .nil⟩
  have c__law_note : C8.Cal l.prog w K mg base 3 "_law_note" (spNote K) [] := ⟨_, _, ["rows", "family", "seen", "some"], [], ok__law_note T c__law_present F7, PySem.W.mg_of X G a7, k7, b7, .nil⟩
  have c__law_integers : C8.Cal l.prog w K mg base 1 "_law_integers" (spInts K) [] := ⟨_, _, ["told", "due"], [], ok__law_integers T  F8, PySem.W.mg_of X G a8, k8, b8, .nil⟩
  have c__law_order : C8.Cal l.prog w K mg base 2 "_law_order" (spOrder K) [] := ⟨_, _, ["rows", "one"], [], ok__law_order T c__law_integers F9, PySem.W.mg_of X G a9, k9, b9, .nil⟩
  exact ok_law T c__law_purse c__law_draw c__law_rows c__law_family c__law_present c__law_note c__law_integers c__law_order F0 (PySem.W.mg_of X G a0) b0 (TB (cl, Pl) (List.mem_singleton.mpr rfl)) F10
end K05
open PySem PySem.W PyProof.Rows
set_option maxRecDepth 100000 in
set_option maxHeartbeats 0 in
theorem PySem.Challenge.cw_gatesworn_k05_least_rows_holds : PySem.Challenge.rw_gatesworn_k05_least_rows.Holds := by
  w_on; o_law; k_head; (case hw => w_witness2)
  k_fill
  refine WLam.walk_ofT2 (l := PySem.Challenge.rw_gatesworn_k05_least_rows) (n := 63) (k := 7) (x := "script") (CX := fun _ => L2.CX0) rfl (by decide) rfl ⟨rfl, by decide, by decide⟩ (fun w h Y => PySem.W.km_in_of Y) rfl ?F (fun _ _ _ _ _ h => h)
  case F =>
    intro w mg fa h KX G hmg tabs
    refine' K05.all_mk KX G hmg tabs ?a0 ?l0 ?c0 ?k0 ?a1 ?l1 ?c1 ?k1 ?a2 ?l2 ?c2 ?k2 ?a3 ?l3 ?c3 ?k3 ?a4 ?l4 ?c4 ?k4 ?a5 ?l5 ?c5 ?k5 ?a6 ?l6 ?c6 ?k6 ?a7 ?l7 ?c7 ?k7 ?a8 ?l8 ?c8 ?k8 ?a9 ?l9 ?c9 ?k9 ?a10 ?l10 ?c10 ?k10 ?z_bool ?z_int ?z_isinstance ?z_len ?z_list ?z_max ?z_range ?z_sorted ?z_sum ?lc ?vp ?nP
    (case a0 => k_is); (case l0 => k_is); (case c0 => k_is); (case k0 => k_is); (case a1 => k_is); (case l1 => k_is); (case c1 => k_is); (case k1 => k_is); (case a2 => k_is); (case l2 => k_is); (case c2 => k_is); (case k2 => k_is); (case a3 => k_is); (case l3 => k_is); (case c3 => k_is); (case k3 => k_is); (case a4 => k_is); (case l4 => k_is); (case c4 => k_is); (case k4 => k_is); (case a5 => k_is); (case l5 => k_is); (case c5 => k_is); (case k5 => k_is); (case a6 => k_is); (case l6 => k_is); (case c6 => k_is); (case k6 => k_is); (case a7 => k_is); (case l7 => k_is); (case c7 => k_is); (case k7 => k_is); (case a8 => k_is); (case l8 => k_is); (case c8 => k_is); (case k8 => k_is); (case a9 => k_is); (case l9 => k_is); (case c9 => k_is); (case k9 => k_is); (case a10 => k_is); (case l10 => k_is); (case c10 => k_is); (case k10 => k_is); (case z_bool => k_is); (case z_int => k_is); (case z_isinstance => k_is); (case z_len => k_is); (case z_list => k_is); (case z_max => k_is); (case z_range => k_is); (case z_sorted => k_is); (case z_sum => k_is); (case lc => k_is); (case vp => rfl); (case nP => first | kernel_rfl | rfl)
