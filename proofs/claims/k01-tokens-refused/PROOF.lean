import PyProof.Rows.All
import Wide.All
import OpenK.AllK
import Wide.FinOn
import HandS.ForMost
import HandS.SortKw
import HandS.Codes
import HandS.Strs
import HandS.Wide
import HandS.IsInst
import HandS.StrMore
import HandS.Steps
import HandS.Evl
import HandS.Zip
import HandS.ExcInit
import HandS.Nested
import KE.KExcSuper
import HandS.ExcIs
import HandS.ExcField
import HandS.TryMany
import HandS.FStr
import HandS.ExcOwn
import HandS.WordsExc
import PySem.Challenge.RW_gatesworn_k01_tokens_refused
set_option Elab.async false
set_option linter.all false
set_option maxRecDepth 100000
set_option maxHeartbeats 4000000
namespace WL
open PySem PySem.Spec PyProof.Rows L2 PySem.W
/-! max of a list of ints with default= -/
section
variable {prog : Program} {w : World} {A : Around} {R : Result → Shared → Prop} {I : Addr} {fp wr : List Addr} {n : Nat} {P : Nat → Value → Prop} {St : Nat → Heap → Prop} {kw : List (Str × Value)}
theorem mxName : (toString "max" ++ toString ".loop" : String) = "max.loop" := by decide
/-- the turns behind the first one, whatever the keywords -/
theorem mx_turns (W : Walks prog w A.in1 I fp wr n P St) (bt : Nat → Nat → Bool) (cmp : CmpOf prog w A.in1 .Gt P bt) (S : Addr) (nf : S ∉ fp) : ∀ (k j : Nat) (s : Shared) (vb : Value) (c : Nat), n - (j + 1) = k → j + 1 ≤ n → St (j + 1) s.heap → P (argBest bt j) vb →
    s.heap.get? S = some { cls := .type "list", dict := none, data := .seq #[vb, vb] c, slots := #[] } →
    (∀ v h' tk, P (argBest bt (n - 1)) v → (∀ b o, b ∉ wr → b ≠ S → s.heap.get? b = some o → h'.get? b = some o) → R (.ok (.ret v)) { s with heap := h', toks := tk }) →
    codeAny (model prog w) A (.builtin "max.loop" ⟨[.ref I, .none, .ref S], kw⟩) R s := by
  have nw : S ∉ wr := fun h => nf (W.sub _ h)
  intro k; induction k with
  | zero =>
    intro j s vb c hk hj hst hPb hS hR
    have en : j + 1 = n := by omega
    refine codeAny_builtin F.entry_max_loop ?_; rw [Around.under_plainId F.plain_max_loop _]
    (show wpAny _ A.in1 (seqItems? (.ref S) >>= _) _ _ s); refine wpAny_bind (wpAny_seqItems hS rfl ?_)
    (show wpAny _ A.in1 (tryCatch (pyNext (.ref I)) _ >>= _) _ _ s); refine wpAny_bind (wpAny_tryCatch (W.done s _ _ (en ▸ hst) fun h' tk hk' => ?_))
    (show wpAny _ A.in1 (updateSeq S (fun _ => #[]) >>= _) _ _ _); refine wpAny_bind (wpAny_updateSeq (hk' S _ nw hS) rfl (wpAny_bind (wpAny_letGo (wpAny_pure ?_))))
    exact hR vb _ tk (by rw [← en]; exact hPb) fun b o hbw hbS e => (Heap.get?_update_other _ _ (Ne.symm hbS)).trans (hk' b o hbw e)
  | succ k ih =>
    intro j s vb c hk hj hst hPb hS hR
    have hlt : j + 1 < n := by omega
    refine codeAny_builtin F.entry_max_loop ?_; rw [Around.under_plainId F.plain_max_loop _]
    (show wpAny _ A.in1 (seqItems? (.ref S) >>= _) _ _ s); refine wpAny_bind (wpAny_seqItems hS rfl ?_)
    (show wpAny _ A.in1 (tryCatch (pyNext (.ref I)) _ >>= _) _ _ s); refine wpAny_bind (wpAny_tryCatch (W.item (j + 1) s _ _ hlt hst fun v h' tk hP hst' hk' => ?_))
    have hS' := hk' S _ nw hS
    (show wpAny _ A.in1 (tryCatch (holding [v, v] (richCompare .Gt v vb >>= _)) _ >>= _) _ _ _); refine wpAny_bind (wpAny_tryCatch (wpAny_holding (wpAny_bind (cmp (j + 1) (argBest bt j) v vb _ _ _ hP hPb ?_))))
    refine wpAny_bind (wpAny_holding (wpAny_truthy_bool ?_)); refine wpAny_bind (wpAny_letGo (wpAny_pure ?_))
    cases hb : bt (j + 1) (argBest bt j) with
    | true =>
      simp only [if_true]
      refine wpAny_bind (wpAny_updateSeq hS' rfl (wpAny_bind (wpAny_letGo ?_))); rw [mxName]
      refine wpAny_pure ⟨plainId_quiet F.plain_max_loop _, ih (j + 1) _ v _ (by omega) hlt (W.frame _ _ _ hst' fun b hbf o e => ?_) (by simp only [argBest, hb, if_true]; exact hP) (Heap.get?_update_self _ hS' rfl) fun v' h'' tk'' hP' hk'' => ?_⟩
      · exact (Heap.get?_update_other _ _ (fun q : S = b => nf (by rw [q]; exact hbf))).trans e
      · exact hR v' h'' tk'' hP' fun b o hbw hbS e => hk'' b o hbw hbS ((Heap.get?_update_other _ _ (Ne.symm hbS)).trans (hk' b o hbw e))
    | false =>
      simp only [Bool.false_eq_true, if_false]
      refine wpAny_bind (wpAny_letGo ?_); rw [mxName]
      refine wpAny_pure ⟨plainId_quiet F.plain_max_loop _, ih (j + 1) _ vb c (by omega) hlt hst' (by simp only [argBest, hb, Bool.false_eq_true, if_false]; exact hPb) hS' fun v' h'' tk'' hP' hk'' => ?_⟩
      exact hR v' h'' tk'' hP' fun b o hbw hbS e => hk'' b o hbw hbS (hk' b o hbw e)
/-- all turns, at least one item -/
theorem mx_first (W : Walks prog w A.in1 I fp wr n P St) (bt : Nat → Nat → Bool) (cmp : CmpOf prog w A.in1 .Gt P bt) (S : Addr) (nf : S ∉ fp) (hn : 0 < n) {s : Shared} {c : Nat} (hst : St 0 s.heap) (hS : s.heap.get? S = some { cls := .type "list", dict := none, data := .seq #[] c, slots := #[] })
    (hR : ∀ v h' tk, P (argBest bt (n - 1)) v → (∀ b o, b ∉ wr → b ≠ S → s.heap.get? b = some o → h'.get? b = some o) → R (.ok (.ret v)) { s with heap := h', toks := tk }) : codeAny (model prog w) A (.builtin "max.loop" ⟨[.ref I, .none, .ref S], kw⟩) R s := by
  have nw : S ∉ wr := fun h => nf (W.sub _ h)
  refine codeAny_builtin F.entry_max_loop ?_; rw [Around.under_plainId F.plain_max_loop _]
  (show wpAny _ A.in1 (seqItems? (.ref S) >>= _) _ _ s); refine wpAny_bind (wpAny_seqItems hS rfl ?_)
  (show wpAny _ A.in1 (tryCatch (pyNext (.ref I)) _ >>= _) _ _ s); refine wpAny_bind (wpAny_tryCatch (W.item 0 s _ _ hn hst fun v h' tk hP hst' hk' => ?_))
  have hS' := hk' S _ nw hS
  (show wpAny _ A.in1 (updateSeq S (fun _ => #[v, v]) >>= _) _ _ _); refine wpAny_bind (wpAny_updateSeq hS' rfl ?_); rw [mxName]
  refine wpAny_pure ⟨plainId_quiet F.plain_max_loop _, mx_turns W bt cmp S nf _ 0 _ v _ rfl hn (W.frame _ _ _ hst' fun b hbf o e => ?_) hP (Heap.get?_update_self _ hS' rfl) fun v' h'' tk'' hP' hk'' => ?_⟩
  · exact (Heap.get?_update_other _ _ (fun q : S = b => nf (by rw [q]; exact hbf))).trans e
  · exact hR v' h'' tk'' hP' fun b o hbw hbS e => hk'' b o hbw hbS ((Heap.get?_update_other _ _ (Ne.symm hbS)).trans (hk' b o hbw e))
/-- no item: the default -/
theorem mx_none (W : Walks prog w A.in1 I fp wr n P St) (S : Addr) (nf : S ∉ fp) (hn : n = 0) {d : Value} {s : Shared} {c : Nat} (hst : St 0 s.heap) (hS : s.heap.get? S = some { cls := .type "list", dict := none, data := .seq #[] c, slots := #[] })
    (hR : ∀ h' tk, (∀ b o, b ∉ wr → b ≠ S → s.heap.get? b = some o → h'.get? b = some o) → R (.ok (.ret d)) { s with heap := h', toks := tk }) : codeAny (model prog w) A (.builtin "max.loop" ⟨[.ref I, .none, .ref S], [("default", d)]⟩) R s := by
  subst hn
  refine codeAny_builtin F.entry_max_loop ?_; rw [Around.under_plainId F.plain_max_loop _]
  (show wpAny _ A.in1 (seqItems? (.ref S) >>= _) _ _ s); refine wpAny_bind (wpAny_seqItems hS rfl ?_)
  (show wpAny _ A.in1 (tryCatch (pyNext (.ref I)) _ >>= _) _ _ s); refine wpAny_bind (wpAny_tryCatch (W.done s _ _ hst fun h' tk hk' => ?_))
  refine wpAny_bind (wpAny_rule ?_)
  exact wpAny_pure (hR h' tk fun b o hbw _ e => hk' b o hbw e)
end
section
variable {prog : Program} {w : World} {A : Around} {E : Value → Shared → Prop} {s : Shared} {l : Addr} {xs : Array (Int × Tok)} {Q : Value → Shared → Prop}
theorem mx_args (a d : Value) : argsOk "max" ⟨[a], [(Str.ofString "default", d)]⟩ := by unfold argsOk; kernel_rfl
theorem mx_list {d : Value} (hh : A.handled = none) (hl : s.heap.IsList l (intItems xs)) (h0 : xs.size = 0 → ∀ h' tk, (∀ b o, s.heap.get? b = some o → h'.get? b = some o) → Q d { s with heap := h', toks := tk })
    (h1 : 0 < xs.size → ∀ v h' tk, (intItems xs)[argBest (fun i j => decide (numAt xs i > numAt xs j)) (xs.size - 1)]? = some v → (∀ b o, s.heap.get? b = some o → h'.get? b = some o) → Q v { s with heap := h', toks := tk }) :
    wpAny (model prog w) A (call (.builtin "max") [.ref l] [(Str.ofString "default", d)]) Q E s := by
  refine kmk_tree F.kind_max F.plain_max F.entry_max (mx_args _ _) ?_
  show wpAny _ A.in1 (Builtin.Builtins.bindParams "max" ["key", "default"] 0 ⟨[], [(Str.ofString "default", d)]⟩ >>= _) _ _ s
  refine wpAny_bind (wpAny_of_eq (show Builtin.Builtins.bindParams "max" ["key", "default"] 0 ⟨[], [(Str.ofString "default", d)]⟩ = pure [none, some d] from rfl) ?_)
  refine wpAny_bind (wpAny_pure ?_)
  refine wpAny_bind (iter_intList hl fun s₂ e st hfp hlI => ?_)
  refine wpAny_bind (wpAny_newObj_type ?_)
  have W := Walks.list (prog := prog) (w := w) (A := A.in1) hh _ l hlI (intItems xs)
  have nf : s₂.heap.objs.size ∉ [s.heap.objs.size, l] := fun hm => Nat.lt_irrefl _ (hfp _ hm)
  have st0 := W.frame 0 _ (s₂.heap.push { cls := .type "list", data := .seq (#[] : Array Value) }) st (fun b _ o e => Heap.get?_push_of_some _ e)
  have hS : (s₂.heap.push { cls := .type "list", data := .seq (#[] : Array Value) }).get? s₂.heap.objs.size = some { cls := .type "list", data := .seq (#[] : Array Value) } := Heap.get?_push_size _ rfl
  rw [mxName]
  subst e
  by_cases hz : xs.size = 0
  · refine wpAny_pure ⟨plainId_quiet F.plain_max_loop _, mx_none W _ nf (by simpa [intItems] using hz) st0 hS fun h' tk hk => ?_⟩
    exact h0 hz h' tk (old_kept fun b o hb e => hk b o hb (Nat.ne_of_lt (Heap.lt_size e)) (Heap.get?_push_of_some _ e))
  · refine wpAny_pure ⟨plainId_quiet F.plain_max_loop _, mx_first W _ (CmpOf.ints_gt (numAt xs) (fun _ _ => intItems_at)) _ nf (by simp [intItems]; omega) st0 hS fun v h' tk hP hk => ?_⟩
    exact h1 (by omega) v h' tk (by simpa [intItems] using hP) (old_kept fun b o hb e => hk b o hb (Nat.ne_of_lt (Heap.lt_size e)) (Heap.get?_push_of_some _ e))
end
/-- max(xs, default=d), xs a list of ints -/
def rMaxD (K : PySem.W.Frag) : List V → List V → Hp → VK → Prop := fun vs zs H Q => ∃ (a : Addr) (ns : List Int) (d : Int), vs = [V.ref a] ∧ zs = [V.int d] ∧ SqL K H a (ns.map V.int) ∧ (ns = [] → Q (.int d) H) ∧ (∀ m, m ∈ ns → (∀ y, y ∈ ns → y ≤ m) → Q (.int m) H)
theorem cr_maxD {X : Cx} (hc : X.calm = true) : CallRK X (.builtin "max") [Str.ofString "default"] (rMaxD X.K) := by
  intro pins s σ H vs zs us ws Q I r r2 h
  obtain ⟨a, ns, d, rfl, rfl, hs, q0, q1⟩ := h
  obtain ⟨its, rv, hl, _⟩ := I.list hs
  rw [Vals.ref1 r]
  obtain ⟨u, rfl, t, rfl⟩ : ∃ u, ws = [u] ∧ ∃ t, u = Value.int d t := by
    cases r2 with
    | cons a b => cases b; exact ⟨_, rfl, a⟩
  obtain ⟨xs, e⟩ := rv.ints.allInts.items
  have hn : numsOf (intItems xs).toList = ns := by rw [← e]; exact rv.ints.numsOf
  rw [nums_intItems] at hn
  subst hn
  have hl' := hl.isList
  rw [e] at hl'
  refine mx_list (I.ok.hd hc) hl' (fun hz h' tk hk => ⟨.int d, H, I.kept hk, ⟨_, rfl⟩, q0 ?_⟩) (fun hz v h' tk hv hk => ?_)
  · have : xs = #[] := Array.eq_empty_of_size_eq_zero hz
    subst this; rfl
  · obtain ⟨t, rfl⟩ := intItems_at hv
    obtain ⟨k1, k2⟩ := argBest_gt (numAt xs) (xs.size - 1)
    refine ⟨.int _, H, I.kept hk, ⟨_, rfl⟩, q1 _ ?_ fun y hy => ?_⟩
    · rw [numAt_eq]; exact PySem.getD_mem (by rw [List.length_map, Array.length_toList]; omega)
    · obtain ⟨j, hj, rfl⟩ := mem_getD hy
      rw [List.length_map, Array.length_toList] at hj
      rw [← numAt_eq]; exact k2 j (by omega)
theorem my_maxD {X : Cx} (K : PySem.W.Frag) {p pos kp : Pos} {e d : Expr} {te td : TE} (hm : X.mg "max" = none) (hc : X.calm = true) (hg : Gl X "max") (he : PE X e te) (hd : PE X d td)
    (h1 : backTo pos (starEach [e] X.env) = (false, eval e X.env) :: backTo pos (starEach [] X.env) := by rfl) (h2 : (backTo pos (starEach [e] X.env)).any (·.1) = false := by rfl) (h3 : starEach [e] X.env = (false, eval e X.env) :: starEach [] X.env := by rfl) (eK : X.K = K := by rfl) :
    PE X (.Call (.Name "max" p) [e] [⟨some "default", d, kp⟩] pos) (tCKw (rMaxD K) (tCons te tNil) (tCons td tNil)) := by
  subst eK
  exact pe_callBK (cr_maxD hc) hg hm (by decide +kernel) (pa_cons he pa_nil h3) (pk_cons hd pk_nil) (by decide) (by decide) h1 h2 rfl rfl rfl
/-- text * int -/
theorem op_mul_str {X : Cx} : OpR X (binaryOp .Mult) (fun x y H Q => ∃ z n, x = .str z ∧ y = .int n ∧ z.length ≤ 16 ∧ n ≤ 1048576 ∧ -(2 ^ 63 : Int) ≤ n ∧ Q (.str (Txt.mul z n)) H) := by
  intro pins s σ H x y v u Q I rx ry h
  obtain ⟨z, n, rfl, rfl, h1, h2, h3, q⟩ := h
  obtain ⟨t, rfl⟩ := rx
  obtain ⟨t', rfl⟩ := ry
  exact SB.mul (mulOk_of 16 1048576 h1 h2 h3 (by decide) (by decide)) fun t' k => ⟨.str (Txt.mul z n), H, I.tok _, ⟨_, rfl⟩, q⟩
end WL
set_option Elab.async false
set_option linter.all false
set_option maxRecDepth 100000
set_option maxHeartbeats 4000000
namespace WL
open PySem PySem.Spec PyProof.Rows L2 PySem.W
/-! ### heaps: all but b stays -/
def Kp (b : Addr) (H H' : Hp) : Prop := ∀ a o, H a = some o → a ≠ b → H' a = some o
theorem Kp.refl {b : Addr} (H : Hp) : Kp b H H := fun _ _ h _ => h
theorem Kp.trans {b : Addr} {H H1 H2 : Hp} (p : Kp b H H1) (q : Kp b H1 H2) : Kp b H H2 := fun a o h n => q a o (p a o h n) n
theorem Kp.set {b : Addr} {H H1 : Hp} {o : HO} (p : Kp b H H1) : Kp b H (upd H1 b o) := fun a u h n => by rw [upd_ne n]; exact p a u h n
theorem Kp.new {b p : Addr} {H H1 : Hp} {o : HO} (k : Kp b H H1) (hp : H1 p = none) : Kp b H (upd H1 p o) := fun a u h n => by
  have e := k a u h n
  rw [upd_ne (ne_of_none e hp)]; exact e
/-- an object that was not there may change -/
theorem Kp.mut {b p : Addr} {H H1 : Hp} {o : HO} (k : Kp b H H1) (hp : H p = none) : Kp b H (upd H1 p o) := fun a u h n => by
  rw [upd_ne (ne_of_none h hp)]; exact k a u h n
theorem Kp.same {b : Addr} {H H1 : Hp} (s : Same H H1) : Kp b H H1 := fun a o h _ => s a o h
theorem Kp.free {b a : Addr} {H H1 : Hp} (k : Kp b H H1) (n : a ≠ b) (h : H1 a = none) : H a = none := by
  cases e : H a with
  | none => rfl
  | some o => rw [k a o e n] at h; cases h
theorem Kp.seq {K : PySem.W.Frag} {b a : Addr} {xs : List V} {H H1 : Hp} (k : Kp b H H1) (n : a ≠ b) (h : SqL K H a xs) : SqL K H1 a xs := by
  rcases h with (h | ⟨o, h⟩) | h
  · exact .inl (.inl (k _ _ h n))
  · exact .inl (.inr ⟨o, k _ _ h n⟩)
  · exact .inr h
theorem same_new {H : Hp} {p : Addr} {o : HO} (h : H p = none) : Same H (upd H p o) := fun b x e => by
  rw [upd_ne (ne_of_none e h)]; exact e
theorem same_mut {H H1 : Hp} {p : Addr} {o : HO} (k : Same H H1) (hp : H p = none) : Same H (upd H1 p o) := fun a u h => by
  rw [upd_ne (ne_of_none h hp)]; exact k a u h
theorem cxK {CX : CXT} {P : Program} {w : World} {K : PySem.W.Frag} {mg : Str → Option Value} {base : Heap} {N : List Str} {qual : Str} {scope : Scope} {f : Addr} {cd : Value} {A : Around} {outer : List Env} {s : Shared} {H : Hp} {E : XK} : (cxOf CX P w K mg base N qual scope f cd A outer s H E).K = K := rfl
/-! ### the rules with the written part named -/
section
variable {X : Cx} (K : PySem.W.Frag)
theorem kix_list (e : X.K = K := by rfl) : IxR X (rIxL K) := by subst e; exact ix_list
theorem kix_tup (e : X.K = K := by rfl) : IxR X (rIxT K) := by subst e; exact ix_tup
theorem ksl_list (e : X.K = K := by rfl) : SlR X (rSlL K) := by subst e; exact sl_list
theorem ksl_tup (e : X.K = K := by rfl) : SlR X (rSlT K) := by subst e; exact sl_tup
theorem kop_in_seq (e : X.K = K := by rfl) : OpR X (compareOp .In) (rIn K false) := by subst e; exact op_in_seq
theorem kop_notIn_seq (e : X.K = K := by rfl) : OpR X (compareOp .NotIn) (rIn K true) := by subst e; exact op_notIn_seq
theorem kop_catT (e : X.K = K := by rfl) : OpR X (binaryOp .Add) (rCatT K) := by subst e; exact op_catT
theorem kcall_len_seq (e : X.K = K := by rfl) : CallR X (.builtin "len") (fun xs H Q => ∃ p ys, xs = [.ref p] ∧ (SqL K H p ys ∨ SqT K H p ys) ∧ Q (.int ys.length) H) := by subst e; exact call_len_seq
theorem kcall_list_of (e : X.K = K := by rfl) : CallR X (.type "list") (fun xs H Q => ∃ p ys, xs = [.ref p] ∧ (SqL K H p ys ∨ SqT K H p ys) ∧ ∀ l, H l = none → Q (.ref l) (upd H l (.lst ys))) := by subst e; exact call_list_of
theorem kcall_tuple_of (e : X.K = K := by rfl) : CallR X (.type "tuple") (fun xs H Q => ∃ p ys, xs = [.ref p] ∧ ((SqL K H p ys ∧ ∀ l, H l = none → Q (.ref l) (upd H l (.tup ys))) ∨ (SqT K H p ys ∧ Q (.ref p) H))) := by subst e; exact call_tuple_of
theorem kcr_sum (hc : X.calm = true := by rfl) (e : X.K = K := by rfl) : CallR X (.builtin "sum") (rSum K) := by subst e; exact cr_sum hc
theorem kcr_max (hc : X.calm = true := by rfl) (e : X.K = K := by rfl) : CallR X (.builtin "max") (rMax K) := by subst e; exact cr_max hc
theorem kcr_min (hc : X.calm = true := by rfl) (e : X.K = K := by rfl) : CallR X (.builtin "min") (rMin K) := by subst e; exact cr_min hc
theorem kop_eqD (hu : X.A.units + 64 < cLine) (e : X.K = K := by rfl) : OpR X (compareOp .Eq) (rEqD K) := by subst e; exact op_eqD hu
theorem kop_neD (hu : X.A.units + 64 < cLine) (e : X.K = K := by rfl) : OpR X (compareOp .NotEq) (rNeD K) := by subst e; exact op_neD hu
theorem kcall_isi (e : X.K = K := by rfl) : CallR X (.builtin "isinstance") (rIsi K) := by subst e; exact call_isi
theorem kcall_isiT (e : X.K = K := by rfl) : CallR X (.builtin "isinstance") (rIsiT K) := by subst e; exact call_isiT
theorem kpi_list {tg l : Expr} {tl : TE} (hl : PE X l tl) (e : X.K = K := by rfl) : PI X tg l (iList K tl) := by subst e; exact pi_list hl
theorem kpi_tup {tg l : Expr} {tl : TE} (hl : PE X l tl) (e : X.K = K := by rfl) : PI X tg l (iTup K tl) := by subst e; exact pi_tup hl
theorem kpt_truth {a : Expr} {ta : TE} (ha : PE X a ta) (he : ∀ whole, isTrue a X.env whole = (do let v ← whole; standAt a.pos; holding [v] (truthy v))) (e : X.K = K := by rfl) : PT X a (tTru K ta) := by subst e; exact pt_truth ha he
theorem kpe_bm {o ex : Expr} {es : List Expr} {T name id} {apos cpos : Pos} {r : V → List V → Hp → VK → Prop} {to : TE} {t : TA} (pa : PlainAttrs T) (slot : Slot T name id) (hty : typeOf (.builtin id) = pure (.type "method_descriptor")) (hm : MtR X id r) (ho : PE X o to) (ha : PA X (ex :: es) t)
    (hbase : attributeBase o name X.env (eval o X.env) = eval o X.env := by rfl) (hfew : ((backTo cpos (starEach (ex :: es) X.env)).all (fun x => !x.1) && (backToKw cpos (keywordEach [] X.env)).all (fun x => x.1.isSome) && decide ((ex :: es).length + ([] : List Keyword).length + (if ([] : List Keyword).isEmpty then 0 else 1) < 30)) = true := by rfl)
    (hline : (apos.endLine == cpos.line) = true := by rfl) (hs : starEach (ex :: es) X.env = (false, eval ex X.env) :: starEach es X.env := by rfl) (hplain : (backTo cpos (starEach es X.env)).any (·.1) = false := by rfl) (e : X.K = K := by rfl) :
    PE X (.Call (.Attribute o name apos) (ex :: es) [] cpos) (tBM K T r to t) := by subst e; exact pe_bm pa slot hty hm ho ha hbase hfew hline hs hplain
theorem kpe_bm0 {o : Expr} {T name id} {apos cpos : Pos} {r : V → List V → Hp → VK → Prop} {to : TE} (pa : PlainAttrs T) (slot : Slot T name id) (hty : typeOf (.builtin id) = pure (.type "method_descriptor")) (hm : MtR X id r) (ho : PE X o to)
    (hbase : attributeBase o name X.env (eval o X.env) = eval o X.env := by rfl) (hline : (apos.endLine == cpos.line) = true := by rfl) (e : X.K = K := by rfl) : PE X (.Call (.Attribute o name apos) [] [] cpos) (tBM0 K T r to) := by subst e; exact pe_bm0 pa slot hty hm ho hbase hline
theorem kpe_join {o ex : Expr} {to te : TE} {apos pos : Pos} (ho : PE X o to) (he : PE X ex te) (hs : starEach [ex] X.env = [(false, eval ex X.env)] := by rfl) (hbase : attributeBase o "join" X.env (eval o X.env) = eval o X.env := by rfl) (hline : (apos.endLine == pos.line) = true := by rfl) (e : X.K = K := by rfl) :
    PE X (.Call (.Attribute o "join" apos) [ex] [] pos) (tM1 (fun x xs H Q => ∃ a p, ∃ ys : List Str, x = .str a ∧ xs = [.ref p] ∧ (SqL K H p (ys.map V.str) ∨ SqT K H p (ys.map V.str)) ∧ (ys.map (·.length)).sum + ys.length * a.length ≤ 16777216 ∧ Q (.str (Txt.join a ys)) H) to te) := by subst e; exact pe_join ho he hs hbase hline
theorem kpg_tup {es : List Expr} {k : Nat} {t : TGs} {n : Nat} {pos : Pos} (hc : X.calm = true) (h : PGs X es t) (hn : (assignEach es X.env).length = n := by rfl) (hst : (assignEach es X.env).findIdx? (·.1) = none := by rfl) (e : X.K = K := by rfl) : PG X (.Tuple es k pos) (gTup K n t) := by subst e; exact pg_tup hc h hn hst
theorem kpi_zip {ex e2 : Expr} {ta : TA} {p pos tpos : Pos} {elts : List Expr} {kk : Nat} (hg : Gl X "zip") (hm : X.mg "zip" = none) (ha : PA X [ex, e2] ta) (hs : starEach [ex, e2] X.env = (false, eval ex X.env) :: starEach [e2] X.env := by rfl) (hpl : (backTo pos (starEach [e2] X.env)).any (·.1) = false := by rfl) (e : X.K = K := by rfl) :
    PI X (.Tuple elts kk tpos) (.Call (.Name "zip" p) [ex, e2] [] pos) (iZip K ta) := by subst e; exact pi_zip hg hm ha hs hpl
theorem kpi_enum {ex : Expr} {ta : TA} {p pos tpos : Pos} {elts : List Expr} {kk : Nat} (hg : Gl X "enumerate") (hm : X.mg "enumerate" = none) (ha : PA X [ex] ta) (hs : starEach [ex] X.env = [(false, eval ex X.env)] := by rfl) (e : X.K = K := by rfl) :
    PI X (.Tuple elts kk tpos) (.Call (.Name "enumerate" p) [ex] [] pos) (iEnum K ta) := by subst e; exact pi_enum hg hm ha hs
theorem kpi_reversed {tg ex : Expr} {ta : TA} {p pos : Pos} (hg : Gl X "reversed") (hm : X.mg "reversed" = none) (ha : PA X [ex] ta) (hs : starEach [ex] X.env = [(false, eval ex X.env)] := by rfl) (e : X.K = K := by rfl) : PI X tg (.Call (.Name "reversed" p) [ex] [] pos) (iRev K ta) := by subst e; exact pi_reversed hg hm ha hs
end
/-! ### steps of a reading -/
section
variable {K : PySem.W.Frag} {σ : L2.St} {H : Hp} {Q : VK} {D : Ends} {ta tb te tc : TE} {t u : TS} {c d : TT} {i j : Int} {x y v : V} {p : Addr} {xs : List V} {k : Nat} {b : Bool}
theorem g_seq (h : t { D with nx := u D } σ H) : tSeq t u D σ H := h
theorem g_asg {g : TG} (h : te σ H fun x H1 => g x σ H1 D.nx) : tAsg te g D σ H := h
theorem g_name {Q : L2.St → Hp → Prop} (h : Q (σ.set k (some v)) H) : gName k v σ H Q := h
theorem g_sub {to ti : TE} {r : TSet} {Q : L2.St → Hp → Prop} (h : to σ H fun o H1 => ti σ H1 fun i H2 => r o i v H2 fun H3 => Q σ H3) : gSub to ti r v σ H Q := h
theorem g_var (e : σ[k]? = some (some v)) (h : Q v H) : tVar k σ H Q := ⟨v, e, h⟩
theorem g_c (h : Q v H) : tC v σ H Q := h
theorem g_op {r : R2} (h : ta σ H fun x H1 => tb σ H1 fun y H2 => r x y H2 Q) : tOp r ta tb σ H Q := h
theorem g_un {r : V → Hp → VK → Prop} (h : ta σ H fun x H1 => r x H1 Q) : tUn r ta σ H Q := h
theorem g_I0 {g : Int → Int → V} (h : Q (g i j) H) : rI0 g (.int i) (.int j) H Q := ⟨i, j, rfl, rfl, h⟩
theorem g_I {C : Int → Int → Prop} {g : Int → Int → V} (hc : C i j) (h : Q (g i j) H) : rI C g (.int i) (.int j) H Q := ⟨i, j, rfl, rfl, hc, h⟩
theorem g_U {g : Int → V} (h : Q (g i) H) : rU g (.int i) H Q := ⟨i, rfl, h⟩
theorem g_eq (s : scal x y = true) (h : Q (.bl (decide (x = y))) H) : rEq x y H Q := ⟨s, h⟩
theorem g_ne (s : scal x y = true) (h : Q (.bl (!decide (x = y))) H) : rNe x y H Q := ⟨s, h⟩
theorem g_drop (h : te σ H fun _ H1 => D.nx σ H1) : tDrop te D σ H := h
theorem g_ret (h : te σ H D.rt) : tRet te D σ H := h
theorem g_next (h : D.nx σ H) : tNext D σ H := h
theorem g_ifS (h : c σ H fun b H1 => if b = true then t D σ H1 else u D σ H1) : tIfS c t u D σ H := h
theorem g_ifE (h : c σ H fun b H1 => if b = true then ta σ H1 Q else tb σ H1 Q) : tIf c ta tb σ H Q := h
theorem g_test {Q : Bool → Hp → Prop} (h : te σ H fun x H' => ∃ k, x = .bl k ∧ Q k H') : tTest te σ H Q := h
theorem g_tb {Q : Bool → Hp → Prop} (h : te σ H fun x H' => ∃ k, x = .bl k ∧ Q k H') : tB te σ H Q := h
theorem g_bl {Q : Bool → Prop} (h : Q b) : ∃ k, V.bl b = .bl k ∧ Q k := ⟨b, rfl, h⟩
theorem g_not {Q : Bool → Hp → Prop} (h : c σ H fun b H1 => Q (!b) H1) : tNot c σ H Q := h
theorem g_and {Q : Bool → Hp → Prop} (h : c σ H fun b H1 => if b = true then d σ H1 Q else Q false H1) : tAnd c d σ H Q := h
theorem g_or {Q : Bool → Hp → Prop} (h : c σ H fun b H1 => if b = true then Q true H1 else d σ H1 Q) : tOr c d σ H Q := h
theorem g_nil {Q : List V → Hp → Prop} (h : Q [] H) : tNil σ H Q := h
theorem g_cons {tr : TA} {Q : List V → Hp → Prop} (h : te σ H fun x H1 => tr σ H1 fun xs H2 => Q (x :: xs) H2) : tCons te tr σ H Q := h
theorem g_cb {r : List V → Hp → VK → Prop} {tr : TA} (h : tr σ H fun vs H1 => r vs H1 Q) : tCB r tr σ H Q := h
theorem g_call {sp : Sp} {dvs : List V} {E : XK} {tr : TA} (h : tr σ H fun vs H1 => sp (vs ++ dvs) H1 Q E) : tCall sp dvs E tr σ H Q := h
theorem g_ixL {z : Int} (hs : SqL K H p xs) (ha : atI xs z = some v) (h : Q v H) : rIxL K (.ref p) (.int z) H Q := ⟨p, xs, z, v, rfl, rfl, hs, ha, h⟩
theorem g_setL {z : Int} {Q : Hp → Prop} {n : Nat} {ys : List V} (hs : H p = some (.lst xs)) (ha : ixN xs.length z = some n) (e : xs.set n v = ys) (h : Q (upd H p (.lst ys))) : rSetL (.ref p) (.int z) v H Q := ⟨p, xs, z, n, rfl, rfl, hs, ha, by rw [e]; exact h⟩
theorem g_setL2 {z : Int} {Q : Hp → Prop} {n : Nat} {ys : List V} (ha : ixN xs.length z = some n) (e : xs.set n v = ys) (h : Q (upd H p (.lst ys))) : rSetL (.ref p) (.int z) v (upd H p (.lst xs)) Q :=
  ⟨p, xs, z, n, rfl, rfl, upd_same, ha, by rw [upd_upd, e]; exact h⟩
theorem g_int {Q : Int → Prop} {R : Prop} (h : Q i) : (∃ z, [V.int i] = [.int z] ∧ Q z) ∨ R := .inl ⟨i, rfl, h⟩
theorem g_lst {tr : TA} (h : tr σ H fun xs H1 => xs.length ≤ sizeLine ∧ ∀ p, H1 p = none → Q (.ref p) (upd H1 p (.lst xs))) : tLst tr σ H Q := h
theorem g_tup {tr : TA} (h : tr σ H fun xs H1 => xs.length ≤ sizeLine ∧ ∀ p, H1 p = none → Q (.ref p) (upd H1 p (.tup xs))) : tTup tr σ H Q := h
theorem g_lenS {Q : List V → Prop} (hs : SqL K H p xs) (h : Q xs) : ∃ p' ys, [V.ref p] = [.ref p'] ∧ (SqL K H p' ys ∨ SqT K H p' ys) ∧ Q ys := ⟨p, xs, rfl, .inl hs, h⟩
theorem g_ite {A B : Prop} {P : Prop} [Decidable P] (h1 : P → A) (h2 : ¬ P → B) : if decide P = true then A else B := by
  by_cases h : P
  · rw [if_pos (decide_eq_true h)]; exact h1 h
  · rw [if_neg (fun e => h (of_decide_eq_true e))]; exact h2 h
theorem g_iteN {A B : Prop} {P : Prop} [Decidable P] (h1 : ¬ P → A) (h2 : P → B) : if (!decide P) = true then A else B := by
  by_cases h : P
  · rw [decide_eq_true h]; exact iteF (h2 h)
  · rw [decide_eq_false h]; exact iteT (h1 h)
theorem g_iteI {A B : Prop} (h1 : i = j → A) (h2 : i ≠ j → B) : if decide (V.int i = V.int j) = true then A else B :=
  g_ite (fun e => h1 (V.int.inj e)) (fun n => h2 fun e => n (congrArg V.int e))
theorem g_iteNI {A B : Prop} (h1 : i ≠ j → A) (h2 : i = j → B) : if (!decide (V.int i = V.int j)) = true then A else B :=
  g_iteN (fun n => h1 fun e => n (congrArg V.int e)) (fun e => h2 (V.int.inj e))
theorem g_iteB {A B : Prop} (h1 : b = true → A) (h2 : b = false → B) : if b = true then A else B := by
  cases b with
  | true => exact iteT (h1 rfl)
  | false => exact iteF (h2 rfl)
end
/-! ### loops and comprehensions -/
section
variable {K : PySem.W.Frag} {σ : L2.St} {H : Hp} {Q : VK} {D : Ends} {ta tb te tl : TE} {tbd : TS} {wi : TI} {g : TG} {tt : TT} {vs : List Nat} {p : Addr} {xs : List V} {z : Int} {k : Nat} {v : V}
def tForK (g : TG) (tb : TS) (D : Ends) (σ : L2.St) (J : It) (H1 : Hp) : Prop := ∃ W : Nat → Nat → L2.St → Hp → Prop, (∃ m, W 0 m σ H1) ∧ ∀ i m σ H, W i m σ H →
  (J.stop i H ∧ D.nx σ H) ∨ (J.go i H ∧ ∃ N : L2.St → Hp → Prop, (∀ σ' H', N σ' H' → ∃ m', m' < m ∧ W (i + 1) m' σ' H') ∧ ∀ x H', J.yld i H x H' → g x σ H' fun σ2 H2 => tb { D with nx := N, ct := N, bk := D.nx } σ2 H2)
def tLcK (g : TG) (tt : TT) (te : TE) (vs : List Nat) (σ : L2.St) (Q : VK) (J : It) (H1 : Hp) : Prop := ∀ D, H1 D = none → ∃ W : Nat → Nat → Hp → Prop, (∃ m, W 0 m (upd H1 D (.lst []))) ∧ ∀ i m H, W i m H →
  (J.stop i H ∧ Q (.ref D) H) ∨ (J.go i H ∧ ∃ Nx : Hp → Prop, (∀ H', Nx H' → ∃ m', m' < m ∧ W (i + 1) m' H') ∧ ∀ x H', J.yld i H x H' → g x (wipe σ vs) H' fun σ2 H2 => wipe σ2 vs = wipe σ vs ∧ tt σ2 H2 fun b H3 =>
    if b = true then te σ2 H3 fun y H4 => ∃ acc, H4 D = some (.lst acc) ∧ acc.length < sizeLine ∧ Nx (upd H4 D (.lst (acc ++ [y]))) else Nx H3)
theorem g_nn {R : Prop} (h : R) : V.non = V.non ∧ R := ⟨rfl, h⟩
theorem g_yes {Q : Bool → Hp → Prop} (h : Q true H) : tYes σ H Q := h
theorem g_for (h : wi σ H (tForK g tbd D σ)) : tFor wi g tbd D σ H := h
theorem g_lc (h : wi σ H (tLcK g tt te vs σ Q)) : tLc wi g tt te vs σ H Q := h
theorem g_iList {R : It → Hp → Prop} (h : tl σ H fun x H1 => ∃ a, x = .ref a ∧ (∃ xs, SqL K H1 a xs) ∧ R (Itl K a) H1) : iList K tl σ H R := h
theorem g_iRng1 {tr : TA} {R : It → Hp → Prop} (h : tr σ H fun vs H1 => ∃ j : Int, vs = [.int j] ∧ -(2 ^ 62) ≤ j ∧ j < 2 ^ 62 ∧ R (Itr 0 j.toNat) H1) : iRng1 tr σ H R := h
theorem g_iRng2 {tr : TA} {R : It → Hp → Prop} (h : tr σ H fun vs H1 => ∃ i j : Int, vs = [.int i, .int j] ∧ (-(2 ^ 62) ≤ i ∧ i < 2 ^ 62 ∧ -(2 ^ 62) ≤ j ∧ j < 2 ^ 62) ∧ R (Itr i (j - i).toNat) H1) : iRng2 tr σ H R := h
theorem g_sl {r : V → Option Int → Option Int → Hp → VK → Prop} {tlo thi : TO} (h : te σ H fun x H1 => tlo σ H1 fun l H2 => thi σ H2 fun u H3 => r x l u H3 Q) : tSl r te tlo thi σ H Q := h
theorem g_noPart {Q : Option Int → Hp → Prop} (h : Q none H) : tNoPart σ H Q := h
theorem g_part {Q : Option Int → Hp → Prop} (h : te σ H fun x H1 => ∃ i, x = .int i ∧ Q (some i) H1) : tPart te σ H Q := h
theorem g_ex1 {Q : Int → Prop} (h : Q z) : ∃ i, V.int z = .int i ∧ Q i := ⟨z, rfl, h⟩
theorem g_ixS {x : Str} {c : Nat} (hl : x.length ≤ sizeLine) (ha : atI x.cps.toList z = some c) (h : Q (.str ⟨#[c]⟩) H) : rIxS (.str x) (.int z) H Q := ⟨x, z, c, rfl, rfl, hl, ha, h⟩
theorem g_bm {T : String} {r : V → List V → Hp → VK → Prop} {to : TE} {tr : TA} (h : to σ H fun x H1 => tyV K T x H1 ∧ tr σ H1 fun xs H2 => r x xs H2 Q) : tBM K T r to tr σ H Q := h
theorem g_tyL {R : Prop} (hs : H p = some (.lst xs)) (h : R) : tyV K "list" (.ref p) H ∧ R := ⟨.inl ⟨rfl, _, SqL.of hs⟩, h⟩
theorem g_app (hs : H p = some (.lst xs)) (hz : xs.length < sizeLine) (h : Q .non (upd H p (.lst (xs ++ [v])))) : rAppend (.ref p) [v] H Q := ⟨p, xs, v, rfl, rfl, hs, hz, h⟩
/-- for x in a list -/
theorem f_list (hS : SqL K H p xs) (Pv : Nat → L2.St → Hp → Prop) (h0 : Pv 0 σ H) (hl : ∀ i σ H, i ≤ xs.length → Pv i σ H → SqL K H p xs)
    (hs : ∀ i x σ H, xs[i]? = some x → Pv i σ H → g x σ H fun σ2 H2 => tbd { D with nx := Pv (i + 1), ct := Pv (i + 1), bk := D.nx } σ2 H2) (hd : ∀ σ H, Pv xs.length σ H → D.nx σ H) :
    ∃ a, V.ref p = .ref a ∧ (∃ xs, SqL K H a xs) ∧ tForK g tbd D σ (Itl K a) H := ⟨p, rfl, ⟨_, hS⟩, for_list Pv h0 hl hs hd⟩
/-- for k in range(z) -/
theorem f_rng1 (h1 : -(2 ^ 62) ≤ z) (h2 : z < 2 ^ 62) (Pv : Nat → L2.St → Hp → Prop) (h0 : Pv 0 σ H) (hs : ∀ i σ H, i < z.toNat → Pv i σ H → g (.int i) σ H fun σ2 H2 => tbd { D with nx := Pv (i + 1), ct := Pv (i + 1), bk := D.nx } σ2 H2) (hd : ∀ σ H, Pv z.toNat σ H → D.nx σ H) :
    ∃ j : Int, [V.int z] = [.int j] ∧ -(2 ^ 62) ≤ j ∧ j < 2 ^ 62 ∧ tForK g tbd D σ (Itr 0 j.toNat) H := ⟨z, rfl, h1, h2, for_range Pv h0 (fun i σ H hi p => by rw [Int.zero_add]; exact hs i σ H hi p) hd⟩
/-- a comprehension over a list -/
theorem f_lcL (hS : SqL K H p xs) (Pv : Addr → Nat → Hp → Prop) (h0 : ∀ D, H D = none → Pv D 0 (upd H D (.lst []))) (hl : ∀ D i H', H D = none → i ≤ xs.length → Pv D i H' → SqL K H' p xs)
    (hs : ∀ D i x H', H D = none → xs[i]? = some x → Pv D i H' → g x (wipe σ vs) H' fun σ2 H2 => wipe σ2 vs = wipe σ vs ∧ tt σ2 H2 fun b H3 => if b = true then te σ2 H3 fun y H4 => ∃ acc, H4 D = some (.lst acc) ∧ acc.length < sizeLine ∧ Pv D (i + 1) (upd H4 D (.lst (acc ++ [y]))) else Pv D (i + 1) H3)
    (hd : ∀ D H', H D = none → Pv D xs.length H' → Q (.ref D) H') : ∃ a, V.ref p = .ref a ∧ (∃ xs, SqL K H a xs) ∧ tLcK g tt te vs σ Q (Itl K a) H :=
  ⟨p, rfl, ⟨_, hS⟩, fun D nD => lc_list (xs := xs) (Pv D) (h0 D nD) (fun i H' hi q => hl D i H' nD hi q) (fun i x H' hx q => hs D i x H' nD hx q) fun H' q => hd D H' nD q⟩
/-- .. over range(z) -/
theorem f_lcR (h1 : -(2 ^ 62) ≤ z) (h2 : z < 2 ^ 62) (Pv : Addr → Nat → Hp → Prop) (h0 : ∀ D, H D = none → Pv D 0 (upd H D (.lst [])))
    (hs : ∀ D i H', H D = none → i < z.toNat → Pv D i H' → g (.int i) (wipe σ vs) H' fun σ2 H2 => wipe σ2 vs = wipe σ vs ∧ tt σ2 H2 fun b H3 => if b = true then te σ2 H3 fun y H4 => ∃ acc, H4 D = some (.lst acc) ∧ acc.length < sizeLine ∧ Pv D (i + 1) (upd H4 D (.lst (acc ++ [y]))) else Pv D (i + 1) H3)
    (hd : ∀ D H', H D = none → Pv D z.toNat H' → Q (.ref D) H') : ∃ j : Int, [V.int z] = [.int j] ∧ -(2 ^ 62) ≤ j ∧ j < 2 ^ 62 ∧ tLcK g tt te vs σ Q (Itr 0 j.toNat) H :=
  ⟨z, rfl, h1, h2, fun D nD => lc_range (Pv D) (h0 D nD) (fun i H' hi q => by rw [Int.zero_add]; exact hs D i H' nD hi q) fun H' q => hd D H' nD q⟩
/-- [f x for x in xs], nothing else made -/
theorem f_lcMap {j : Nat} (hS : SqL K H p xs) (hz : xs.length ≤ 100000) (f : V → V) (hw : ∀ x, wipe ((wipe σ vs).set j (some x)) vs = wipe σ vs)
    (he : ∀ (i : Nat) x H' (Q' : VK), xs[i]? = some x → Same H H' → Q' (f x) H' → te ((wipe σ vs).set j (some x)) H' Q') (hd : ∀ D, H D = none → Q (.ref D) (upd H D (.lst (xs.map f)))) :
    ∃ a, V.ref p = .ref a ∧ (∃ xs, SqL K H a xs) ∧ tLcK (gName j) tYes te vs σ Q (Itl K a) H :=
  f_lcL hS (fun D i H' => H' = upd H D (.lst ((xs.take i).map f))) (fun D _ => rfl) (fun D i H' nD _ e => by rw [e]; exact (same_new nD).seq hS)
    (fun D i x H' nD hx e => ⟨hw x, (by
      suffices hh : te ((wipe σ vs).set j (some x)) H' (fun y H4 => ∃ acc, H4 D = some (.lst acc) ∧ acc.length < sizeLine ∧ upd H4 D (.lst (acc ++ [y])) = upd H D (.lst ((xs.take (i + 1)).map f))) by exact hh
      refine he i x H' _ hx (by rw [e]; exact same_new nD) ?_
      have hi := (List.getElem?_eq_some_iff.mp hx).1
      subst e
      refine ⟨_, upd_same, ?_, ?_⟩
      · rw [List.length_map, List.length_take]; exact Nat.lt_of_le_of_lt (Nat.min_le_right _ _) (Nat.lt_of_le_of_lt hz (by decide))
      · rw [upd_upd, List.take_succ, hx]; simp)⟩) (fun D H' nD e => by rw [e, List.take_length]; exact hd D nD)
/-- [f i for i in range(z)], nothing else made -/
theorem f_lcMapR {j : Nat} (h1 : -(2 ^ 62) ≤ z) (h2 : z ≤ 100000) (f : Nat → V) (hw : ∀ x, wipe ((wipe σ vs).set j (some x)) vs = wipe σ vs)
    (he : ∀ (i : Nat) H' (Q' : VK), i < z.toNat → Same H H' → Q' (f i) H' → te ((wipe σ vs).set j (some (.int i))) H' Q') (hd : ∀ D, H D = none → Q (.ref D) (upd H D (.lst ((List.range z.toNat).map f)))) :
    ∃ j' : Int, [V.int z] = [.int j'] ∧ -(2 ^ 62) ≤ j' ∧ j' < 2 ^ 62 ∧ tLcK (gName j) tYes te vs σ Q (Itr 0 j'.toNat) H :=
  f_lcR h1 (by omega) (fun D i H' => H' = upd H D (.lst ((List.range i).map f))) (fun D _ => rfl)
    (fun D i H' nD hi e => ⟨hw _, (by
      suffices hh : te ((wipe σ vs).set j (some (.int i))) H' (fun y H4 => ∃ acc, H4 D = some (.lst acc) ∧ acc.length < sizeLine ∧ upd H4 D (.lst (acc ++ [y])) = upd H D (.lst ((List.range (i + 1)).map f))) by exact hh
      refine he i H' _ hi (by rw [e]; exact same_new nD) ?_
      subst e
      refine ⟨_, upd_same, ?_, ?_⟩
      · rw [List.length_map, List.length_range]; exact Nat.lt_of_lt_of_le (m := 100000) (by omega) (by decide)
      · rw [upd_upd, List.range_succ]; simp)⟩) (fun D H' nD e => by rw [e]; exact hd D nD)
end
theorem cut_to (xs : List V) (k : Nat) : cutV xs none (some (k : Int)) = xs.take k := by
  unfold cutV
  rw [show HT.sIx xs.length xs.length (some (k : Int)) = min k xs.length from HT.sIx_nat xs.length xs.length k, HT.sIx_none, List.drop_zero, Nat.sub_zero]
  by_cases h : k ≤ xs.length
  · rw [Nat.min_eq_left h]
  · rw [Nat.min_eq_right (by omega), List.take_length, List.take_of_length_le (by omega)]
theorem cut_from (xs : List V) (k : Nat) : cutV xs (some (k : Int)) none = xs.drop k := by
  unfold cutV
  rw [show HT.sIx xs.length 0 (some (k : Int)) = min k xs.length from HT.sIx_nat xs.length 0 k, HT.sIx_none]
  by_cases h : k ≤ xs.length
  · rw [Nat.min_eq_left h, List.take_of_length_le (by rw [List.length_drop] <;> omega)]
  · rw [Nat.min_eq_right (by omega), List.drop_of_length_le (Nat.le_refl _), List.drop_of_length_le (by omega), List.take_nil]
theorem g_slL {K : PySem.W.Frag} {H : Hp} {Q : VK} {p : Addr} {xs ys : List V} {lo hi : Option Int} (hS : SqL K H p xs) (e : cutV xs lo hi = ys) (h : ∀ q, H q = none → Q (.ref q) (upd H q (.lst ys))) : rSlL K (.ref p) lo hi H Q := ⟨p, xs, rfl, hS, by rw [e]; exact h⟩
theorem map_at {ns : List Int} {i : Nat} {x : V} (h : (ns.map V.int)[i]? = some x) : ∃ n, ns[i]? = some n ∧ x = .int n := by
  rw [List.getElem?_map] at h
  cases e : ns[i]? with
  | none => rw [e] at h; cases h
  | some n => rw [e] at h; exact ⟨n, rfl, (Option.some.inj h).symm⟩
theorem map_atS {ns : List Str} {i : Nat} {x : V} (h : (ns.map V.str)[i]? = some x) : ∃ n, ns[i]? = some n ∧ x = .str n := by
  rw [List.getElem?_map] at h
  cases e : ns[i]? with
  | none => rw [e] at h; cases h
  | some n => rw [e] at h; exact ⟨n, rfl, (Option.some.inj h).symm⟩
theorem lt_at {α : Type} {l : List α} {i : Nat} {x : α} (h : l[i]? = some x) : i < l.length := (List.getElem?_eq_some_iff.mp h).1
theorem sz_lt {n : Nat} (h : n < 100000) : n < sizeLine := Nat.lt_of_lt_of_le h (by decide)
theorem sz_le {n : Nat} (h : n ≤ 100000) : n ≤ sizeLine := Nat.le_trans h (by decide)
/-! ### data, texts -/
theorem len_cat (x y : Str) : (x ++ y).length = x.length + y.length := by rw [TL.len_tl, TL.tl_append, List.length_append, ← TL.len_tl, ← TL.len_tl]
theorem strOk_of {x : Str} (h : ∀ c ∈ x.cps.toList, c < 1114112) : PyData.strOk x = true := by
  unfold PyData.strOk; rw [← Array.all_toList, List.all_eq_true]; exact fun c hc => decide_eq_true (h c hc)
theorem strOk_mem {x : Str} (h : PyData.strOk x = true) : ∀ c ∈ x.cps.toList, c < 1114112 := by
  unfold PyData.strOk at h; rw [← Array.all_toList, List.all_eq_true] at h; exact fun c hc => of_decide_eq_true (h c hc)
theorem strOk_cat {x y : Str} (hx : PyData.strOk x = true) (hy : PyData.strOk y = true) : PyData.strOk (x ++ y) = true := strOk_of fun c hc => by
  have e : (x ++ y).cps.toList = x.cps.toList ++ y.cps.toList := TL.tl_append x y
  rw [e] at hc
  rcases List.mem_append.mp hc with h | h
  · exact strOk_mem hx c h
  · exact strOk_mem hy c h
theorem strOk_sign {x : Str} {c : Nat} (hx : PyData.strOk x = true) (h : c ∈ x.cps.toList) : PyData.strOk (⟨#[c]⟩ : Str) = true := strOk_of fun d hd => by
  have : d = c := by simpa using hd
  subst this; exact strOk_mem hx _ h
theorem shaped_list {ds : List PyData} (h1 : PyData.canLayAll0 ds = true) (h2 : PyData.depthAll ds ≤ 60) : SeqAt.shaped (.list ds) = true := by
  unfold SeqAt.shaped; rw [Bool.and_eq_true]
  exact ⟨by rw [PyData.canLay0]; exact h1, decide_eq_true (by rw [PyData.depth]; omega)⟩
theorem dpAll_strs {K : PySem.W.Frag} {H : Hp} : ∀ l : List Str, DpAll K H (l.map V.str) (l.map PyData.str)
  | [] => .nil
  | x :: r => .cons (.str x) (dpAll_strs r)
theorem lay_strs : ∀ l : List Str, (∀ z ∈ l, PyData.strOk z = true) → PyData.canLayAll0 (l.map PyData.str) = true
  | [], _ => rfl
  | x :: r, h => by
    rw [List.map_cons, PyData.canLayAll0, lay_strs r fun z hz => h z (List.mem_cons_of_mem _ hz), PyData.canLay0, h x List.mem_cons_self]; rfl
theorem depth_strs : ∀ l : List Str, PyData.depthAll (l.map PyData.str) = 0
  | [] => rfl
  | x :: r => by simp [PyData.depthAll, PyData.depth, depth_strs r]
theorem shaped_strs {l : List Str} (h : ∀ z ∈ l, PyData.strOk z = true) : SeqAt.shaped (.list (l.map PyData.str)) = true := shaped_list (lay_strs l h) (by rw [depth_strs]; decide)
theorem eqv_same {d : PyData} (h : SeqAt.shaped d = true) : PyData.eqv d d = true := SeqAt.eqv_refl d (SeqAt.canLay_of_shaped h)
theorem at_z {α : Type} {xs : List α} {z : Int} {j : Nat} {v : α} (e : z = (j : Int)) (h : xs[j]? = some v) : atI xs z = some v := by
  rw [e]; exact atI_nat h
section
variable {K : PySem.W.Frag} {σ : L2.St} {H : Hp} {Q : VK} {te to : TE}
theorem g_two {Q : Int → Int → Prop} {i j : Int} (h : Q i j) : ∃ a b, [V.int i, V.int j] = [.int a, .int b] ∧ Q a b := ⟨i, j, rfl, h⟩
theorem g_lenStr {Q : Str → Prop} {x : Str} (hl : x.length ≤ sizeLine) (h : Q x) : ∃ y, [V.str x] = [.str y] ∧ y.length ≤ sizeLine ∧ Q y := ⟨x, rfl, hl, h⟩
theorem g_m1 {r : V → List V → Hp → VK → Prop} (h : to σ H fun x H1 => (∃ a, x = .str a) ∧ te σ H1 fun y H2 => r x [y] H2 Q) : tM1 r to te σ H Q := h
theorem g_isS {x : Str} {R : Prop} (h : R) : (∃ a, V.str x = .str a) ∧ R := ⟨⟨x, rfl⟩, h⟩
theorem g_addS {x y : Str} {Q : Str → Str → Prop} (hz : x.length + y.length ≤ sizeLine) (h : Q x y) : ∃ i j, V.str x = .str i ∧ V.str y = .str j ∧ i.length + j.length ≤ sizeLine ∧ Q i j := ⟨x, y, rfl, rfl, hz, h⟩
theorem g_mulS {x : Str} {n : Int} {Q : Str → Int → Prop} (h1 : x.length ≤ 16) (h2 : n ≤ 1048576) (h3 : -(2 ^ 63 : Int) ≤ n) (h : Q x n) : ∃ z m, V.str x = .str z ∧ V.int n = .int m ∧ z.length ≤ 16 ∧ m ≤ 1048576 ∧ -(2 ^ 63 : Int) ≤ m ∧ Q z m := ⟨x, n, rfl, rfl, h1, h2, h3, h⟩
theorem g_join {x : Str} {p : Addr} {ys : List Str} {Q : Str → List Str → Prop} (hS : SqL K H p (ys.map V.str)) (hz : (ys.map (·.length)).sum + ys.length * x.length ≤ 16777216) (h : Q x ys) :
    ∃ a p', ∃ zs : List Str, V.str x = .str a ∧ [V.ref p] = [.ref p'] ∧ (SqL K H p' (zs.map V.str) ∨ SqT K H p' (zs.map V.str)) ∧ (zs.map (·.length)).sum + zs.length * a.length ≤ 16777216 ∧ Q a zs := ⟨x, p, ys, rfl, rfl, .inl hS, hz, h⟩
end
theorem map_atG {α : Type} {f : α → V} {l : List α} {i : Nat} {x : V} (h : (l.map f)[i]? = some x) : ∃ a, l[i]? = some a ∧ x = f a := by
  rw [List.getElem?_map] at h
  cases e : l[i]? with
  | none => rw [e] at h; cases h
  | some n => rw [e] at h; exact ⟨n, rfl, (Option.some.inj h).symm⟩
theorem foldl_cps (c : Array Nat) : ∀ (k : Nat) (acc : Array Nat), ((List.replicate k c).foldl (· ++ ·) acc).toList = acc.toList ++ (List.replicate k c.toList).flatten
  | 0, acc => by simp
  | k + 1, acc => by rw [List.replicate_succ, List.foldl_cons, foldl_cps c k, List.replicate_succ]; simp
theorem flat_one (a : Nat) : ∀ k : Nat, (List.replicate k [a]).flatten = List.replicate k a
  | 0 => rfl
  | k + 1 => by rw [List.replicate_succ, List.flatten_cons, flat_one a k, List.replicate_succ]; rfl
/-- one sign, n times -/
theorem mul_one_sign (c : Nat) (n : Int) : Txt.mul (⟨#[c]⟩ : Str) n = ⟨(List.replicate n.toNat c).toArray⟩ := by
  refine TL.ext_tl ?_
  show TL.tl _ = List.replicate n.toNat c
  unfold Txt.mul
  by_cases h1 : n < 1
  · rw [if_pos h1, show n.toNat = 0 by omega]; rfl
  · rw [if_neg h1]
    split
    · rename_i h
      have : n = 1 := by
        rcases Bool.or_eq_true_iff.mp h with h | h
        · exact eq_of_beq h
        · cases h
      subst this; rfl
    · show ((List.replicate n.toNat #[c]).foldl (· ++ ·) #[]).toList = _
      rw [foldl_cps]
      show [] ++ (List.replicate n.toNat [c]).flatten = _
      rw [flat_one]; rfl
/-! ### [f x for row in rows for x in row] -/
section
variable {K : PySem.W.Frag} {σ : L2.St} {H : Hp} {Q : VK} {te : TE} {wi wi1 : TI} {g g1 : TG} {tt tt1 : TT} {vs vs1 : List Nat} {p : Addr}
def tLc2K (g : TG) (tt : TT) (wi1 : TI) (g1 : TG) (tt1 : TT) (te : TE) (vs vs1 : List Nat) (σ : L2.St) (Q : VK) (J : It) (H1 : Hp) : Prop := ∀ D, H1 D = none → ∃ W : Nat → Nat → Hp → Prop, (∃ m, W 0 m (upd H1 D (.lst []))) ∧ ∀ i m H, W i m H →
  (J.stop i H ∧ Q (.ref D) H) ∨ (J.go i H ∧ ∃ Nx : Hp → Prop, (∀ H', Nx H' → ∃ m', m' < m ∧ W (i + 1) m' H') ∧ ∀ x H', J.yld i H x H' → g x (wipe σ vs) H' fun σ2 H2 => wipe σ2 vs = wipe σ vs ∧ tt σ2 H2 fun b H3 =>
    if b = true then wi1 σ2 H3 fun J1 H4 => ∃ W1 : Nat → Nat → Hp → Prop, (∃ m, W1 0 m H4) ∧ ∀ j k H, W1 j k H →
      (J1.stop j H ∧ Nx H) ∨ (J1.go j H ∧ ∃ Nx1 : Hp → Prop, (∀ H', Nx1 H' → ∃ k', k' < k ∧ W1 (j + 1) k' H') ∧ ∀ x H', J1.yld j H x H' → g1 x (wipe σ2 vs1) H' fun σ3 H5 => wipe σ3 vs1 = wipe σ2 vs1 ∧ tt1 σ3 H5 fun b H6 =>
        if b = true then te σ3 H6 fun y H7 => ∃ acc, H7 D = some (.lst acc) ∧ acc.length < sizeLine ∧ Nx1 (upd H7 D (.lst (acc ++ [y]))) else Nx1 H6)
    else Nx H3)
theorem g_lc2 (h : wi σ H (tLc2K g tt wi1 g1 tt1 te vs vs1 σ Q)) : tLc2 wi g tt wi1 g1 tt1 te vs vs1 σ H Q := h
theorem f_lc2Map {j1 j2 : Nat} {ps : List Addr} (row : Addr → List V) (hS : SqL K H p (ps.map V.ref)) (hr : ∀ a ∈ ps, SqL K H a (row a)) (hz : ((ps.map row).flatten).length ≤ 100000) (f : V → V)
    (hw : ∀ x, wipe ((wipe σ vs).set j1 (some x)) vs = wipe σ vs) (hj : ∀ x, ((wipe σ vs).set j1 (some x))[j1]? = some (some x)) (hw1 : ∀ x y, wipe ((wipe ((wipe σ vs).set j1 (some x)) vs1).set j2 (some y)) vs1 = wipe ((wipe σ vs).set j1 (some x)) vs1)
    (he : ∀ a x H' (Q' : VK), a ∈ ps → x ∈ row a → Same H H' → Q' (f x) H' → te ((wipe ((wipe σ vs).set j1 (some (.ref a))) vs1).set j2 (some x)) H' Q') (hd : ∀ D, H D = none → Q (.ref D) (upd H D (.lst (((ps.map row).flatten).map f)))) :
    ∃ a, V.ref p = .ref a ∧ (∃ xs, SqL K H a xs) ∧ tLc2K (gName j1) tYes (iList K (tVar j1)) (gName j2) tYes te vs vs1 σ Q (Itl K a) H := by
  refine ⟨p, rfl, ⟨_, hS⟩, fun D nD => ⟨fun i m H' => m = ps.length - i ∧ i ≤ ps.length ∧ H' = upd H D (.lst ((((ps.take i).map row).flatten).map f)), ⟨ps.length, rfl, Nat.zero_le _, rfl⟩, ?_⟩⟩
  rintro i m H' ⟨rfl, hi, rfl⟩
  have hS' : SqL K (upd H D (.lst ((((ps.take i).map row).flatten).map f))) p (ps.map V.ref) := (same_new nD).seq hS
  by_cases hlt : i < ps.length
  · have ei : ps[i]? = some ps[i] := List.getElem?_eq_getElem hlt
    generalize ps[i] = a at ei
    have ex : (ps.map V.ref)[i]? = some (.ref a) := by rw [List.getElem?_map, ei]; rfl
    have ha := List.mem_of_getElem? ei
    refine .inr ⟨⟨_, _, hS', ex⟩, fun H2 => H2 = upd H D (.lst ((((ps.take (i + 1)).map row).flatten).map f)), fun H2 e => ⟨ps.length - (i + 1), by omega, rfl, hlt, e⟩, fun x H2 hy => ?_⟩
    obtain ⟨rfl, fx⟩ := hy
    have : x = .ref a := Option.some.inj ((fx _ hS').symm.trans ex)
    subst this
    refine ⟨hw _, ?_⟩
    suffices hh : iList K (tVar j1) ((wipe σ vs).set j1 (some (.ref a))) (upd H D (.lst ((((ps.take i).map row).flatten).map f))) (fun J1 H4 => ∃ W1 : Nat → Nat → Hp → Prop, (∃ m, W1 0 m H4) ∧ ∀ j k H3, W1 j k H3 →
      (J1.stop j H3 ∧ H3 = upd H D (.lst ((((ps.take (i + 1)).map row).flatten).map f))) ∨ (J1.go j H3 ∧ ∃ Nx1 : Hp → Prop, (∀ H', Nx1 H' → ∃ k', k' < k ∧ W1 (j + 1) k' H') ∧ ∀ x H', J1.yld j H3 x H' → gName j2 x (wipe ((wipe σ vs).set j1 (some (.ref a))) vs1) H' fun σ3 H5 => wipe σ3 vs1 = wipe ((wipe σ vs).set j1 (some (.ref a))) vs1 ∧ tYes σ3 H5 fun b H6 =>
        if b = true then te σ3 H6 fun y H7 => ∃ acc, H7 D = some (.lst acc) ∧ acc.length < sizeLine ∧ Nx1 (upd H7 D (.lst (acc ++ [y]))) else Nx1 H6)) by exact hh
    have hra : SqL K H a (row a) := hr a ha
    refine ⟨.ref a, hj _, a, rfl, ⟨_, (same_new nD).seq hra⟩, fun j k H3 => k = (row a).length - j ∧ j ≤ (row a).length ∧ H3 = upd H D (.lst ((((ps.take i).map row).flatten ++ (row a).take j).map f)), ⟨(row a).length, rfl, Nat.zero_le _, by rw [List.take_zero, List.append_nil]⟩, ?_⟩
    rintro j k H3 ⟨rfl, hjl, rfl⟩
    have hra' : SqL K (upd H D (.lst ((((ps.take i).map row).flatten ++ (row a).take j).map f))) a (row a) := (same_new nD).seq hra
    have etk : ((ps.take (i + 1)).map row).flatten = ((ps.take i).map row).flatten ++ row a := by rw [List.take_succ, ei]; simp
    by_cases hj2 : j < (row a).length
    · have ej : (row a)[j]? = some (row a)[j] := List.getElem?_eq_getElem hj2
      generalize (row a)[j] = y at ej
      refine .inr ⟨⟨_, _, hra', ej⟩, fun H4 => H4 = upd H D (.lst ((((ps.take i).map row).flatten ++ (row a).take (j + 1)).map f)), fun H4 e => ⟨(row a).length - (j + 1), by omega, rfl, hj2, e⟩, fun x H4 hy => ?_⟩
      obtain ⟨rfl, fy⟩ := hy
      have : x = y := Option.some.inj ((fy _ hra').symm.trans ej)
      subst this
      refine ⟨hw1 _ _, ?_⟩
      suffices hh : te ((wipe ((wipe σ vs).set j1 (some (.ref a))) vs1).set j2 (some x)) (upd H D (.lst ((((ps.take i).map row).flatten ++ (row a).take j).map f))) (fun y H7 => ∃ acc, H7 D = some (.lst acc) ∧ acc.length < sizeLine ∧ upd H7 D (.lst (acc ++ [y])) = upd H D (.lst ((((ps.take i).map row).flatten ++ (row a).take (j + 1)).map f))) by exact hh
      refine he a x _ _ ha (List.mem_of_getElem? ej) (same_new nD) ⟨_, upd_same, sz_lt ?_, ?_⟩
      · have h1 : (((ps.take i).map row).flatten ++ row a).length ≤ ((ps.map row).flatten).length := by
          rw [← etk]
          have : (ps.map row).flatten = ((ps.take (i + 1)).map row).flatten ++ ((ps.drop (i + 1)).map row).flatten := by rw [← List.flatten_append, ← List.map_append, List.take_append_drop]
          rw [this, List.length_append]; omega
        rw [List.length_append] at h1
        rw [List.length_map, List.length_append, List.length_take]; omega
      · rw [upd_upd, List.take_succ, ej, ← List.append_assoc]; simp
    · refine .inl ⟨⟨_, hra', by omega⟩, ?_⟩
      rw [etk, show j = (row a).length by omega, List.take_length]
  · refine .inl ⟨⟨_, hS', by rw [List.length_map]; omega⟩, ?_⟩
    rw [show i = ps.length by omega, List.take_length]
    exact hd D nD
end
section
variable {K : PySem.W.Frag} {σ : L2.St} {H : Hp} {Q : VK}
theorem g_ckw {r : List V → List V → Hp → VK → Prop} {tr tk : TA} (h : tr σ H fun vs H1 => tk σ H1 fun zs H2 => r vs zs H2 Q) : tCKw r tr tk σ H Q := h
theorem g_iZip {ta : TA} {R : It → Hp → Prop} (h : ta σ H fun vs H1 => ∃ a b xs ys, vs = [.ref a, .ref b] ∧ SqL K H1 a xs ∧ SqL K H1 b ys ∧ R (Itz K a b) H1) : iZip K ta σ H R := h
theorem g_pad {x : Str} {i : Int} {Q : Str → Int → Prop} (hp : PadOk i = true) (h : Q x i) : ∃ a j, V.str x = .str a ∧ [V.int i] = [.int j] ∧ PadOk j = true ∧ Q a j := ⟨x, i, rfl, rfl, hp, h⟩
theorem padOk_small {i : Int} (h0 : 0 ≤ i) (h : i ≤ 100000) : PadOk i = true := by
  have hz : i.toNat ≤ sizeLine := sz_le (by omega)
  unfold PadOk fitsSsize Builtin.Str.tooLong
  rw [Bool.and_eq_true]
  refine ⟨?_, ?_⟩
  · simp; omega
  · simp; omega
end
section
variable {K : PySem.W.Frag} {σ : L2.St} {H : Hp} {Q : VK} {ta tb : TE}
theorem g_andV (h : ta σ H fun x H1 => ∃ c, x = .bl c ∧ if c = true then tb σ H1 Q else Q (.bl false) H1) : tAndV ta tb σ H Q := h
theorem g_orV (h : ta σ H fun x H1 => ∃ c, x = .bl c ∧ if c = true then Q (.bl true) H1 else tb σ H1 Q) : tOrV ta tb σ H Q := h
theorem iteNT {A B : Prop} (h : B) : if (!true) = true then A else B := by simpa using h
theorem iteNF {A B : Prop} (h : A) : if (!false) = true then A else B := by simpa using h
theorem g_listOf {p : Addr} {xs : List V} {Q : List V → Prop} (hs : SqL K H p xs) (h : Q xs) : ∃ p' ys, [V.ref p] = [.ref p'] ∧ (SqL K H p' ys ∨ SqT K H p' ys) ∧ Q ys := ⟨p, xs, rfl, .inl hs, h⟩
/-- isinstance of a text, an int, a list .. -/
theorem g_isiB {x : V} {T U : String} {b : Bool} (ty : TyX K H x (.type T)) (e : kitB T U = some b) (h : Q (.bl b) H) : rIsi K [x, .ty U] H Q := ⟨x, .ty U, _, _, b, rfl, .ty U, ty, kit_ty e, h⟩
end
/-! ### while, break, texts, powers -/
section
variable {K : PySem.W.Frag} {σ : L2.St} {H : Hp} {Q : VK} {D : Ends} {ta tb te : TE} {c : TT} {tbd : TS}
theorem f_while (W : Nat → L2.St → Hp → Prop) (m0 : Nat) (h0 : W m0 σ H)
    (hs : ∀ m σ H, W m σ H → c σ H fun b H1 => if b = true then ∃ N : L2.St → Hp → Prop, (∀ σ' H', N σ' H' → ∃ m', m' < m ∧ W m' σ' H') ∧ tbd { D with nx := N, ct := N, bk := D.nx } σ H1 else D.nx σ H1) : tWhile c tbd D σ H :=
  ⟨W, ⟨m0, h0⟩, hs⟩
theorem g_turn {W : Nat → L2.St → Hp → Prop} {m : Nat} {r : VK} {bk : L2.St → Hp → Prop} (h : tbd { nx := fun σ' H' => ∃ m', m' < m ∧ W m' σ' H', rt := r, bk := bk, ct := fun σ' H' => ∃ m', m' < m ∧ W m' σ' H' } σ H) :
    ∃ N : L2.St → Hp → Prop, (∀ σ' H', N σ' H' → ∃ m', m' < m ∧ W m' σ' H') ∧ tbd { nx := N, rt := r, bk := bk, ct := N } σ H := ⟨_, fun _ _ h => h, h⟩
theorem g_aug {k : Nat} {x : V} {ti : TIp} (e : σ[k]? = some (some x)) (h : te σ H fun y H1 => ti x y H1 fun z H2 => D.nx (σ.set k (some z)) H2) : tAug k te ti D σ H := ⟨x, e, h⟩
theorem g_ipI {g : Int → Int → Int} {i j : Int} (h : Q (.int (g i j)) H) : ipI g (.int i) (.int j) H Q := ⟨i, j, rfl, rfl, h⟩
theorem g_brk (h : D.bk σ H) : tBreak D σ H := h
theorem g_cont (h : D.ct σ H) : tCont D σ H := h
def CPowW (i j : Int) : Prop := 0 ≤ j ∧ (Builtin.Int.intBits i : Int) * j ≤ 2 ^ 27
theorem op_powW {X : Cx} : OpR X (binaryOp .Pow) (rI CPowW fun i j => .int (i ^ j.toNat)) := opI fun _ _ _ _ _ _ _ hc q => PyProof.Rows.pow_int hc.1 hc.2 q
theorem g_slS {x : Str} {lo hi : Option Int} {y : Str} (hl : x.length ≤ sizeLine) (e : cutS x lo hi = y) (h : Q (.str y) H) : rSlS (.str x) lo hi H Q := ⟨x, rfl, hl, by rw [e]; exact h⟩
/-- a slice of a text, both ends within or beyond -/
theorem cutS_nat (l : List Nat) (a b : Nat) : cutS (⟨l.toArray⟩ : Str) (some (a : Int)) (some (b : Int)) = ⟨((l.drop a).take (b - a)).toArray⟩ := by
  unfold cutS
  have e : (⟨l.toArray⟩ : Str).length = l.length := by simp [Str.length]
  rw [e, show HT.sIx l.length 0 (some (a : Int)) = min a l.length from HT.sIx_nat l.length 0 a, show HT.sIx l.length l.length (some (b : Int)) = min b l.length from HT.sIx_nat l.length l.length b]
  refine congrArg (fun l : List Nat => (⟨l.toArray⟩ : Str)) ?_
  show (l.drop (min a l.length)).take _ = _
  by_cases ha : a ≤ l.length
  · rw [Nat.min_eq_left ha]
    by_cases hb : b ≤ l.length
    · rw [Nat.min_eq_left hb]
    · rw [Nat.min_eq_right (by omega), List.take_of_length_le (by rw [List.length_drop] <;> omega), List.take_of_length_le (by rw [List.length_drop]; omega)]
  · rw [Nat.min_eq_right (show l.length ≤ a by omega), List.drop_of_length_le (Nat.le_refl _), List.drop_of_length_le (show l.length ≤ a by omega), List.take_nil, List.take_nil]
theorem cutS_to (l : List Nat) (b : Nat) : cutS (⟨l.toArray⟩ : Str) none (some (b : Int)) = ⟨(l.take b).toArray⟩ := by
  unfold cutS
  have e : (⟨l.toArray⟩ : Str).length = l.length := by simp [Str.length]
  rw [e, HT.sIx_none, show HT.sIx l.length l.length (some (b : Int)) = min b l.length from HT.sIx_nat l.length l.length b]
  refine congrArg (fun l : List Nat => (⟨l.toArray⟩ : Str)) ?_
  show (l.drop 0).take _ = _
  rw [List.drop_zero, Nat.sub_zero]
  by_cases hb : b ≤ l.length
  · rw [Nat.min_eq_left hb]
  · rw [Nat.min_eq_right (by omega), List.take_length, List.take_of_length_le (by omega)]
theorem g_sign {a : Nat} {z : Str} {Q : Nat → Str → Prop} (h : Q a z) : ∃ (c : Nat) (y : Str), V.str (⟨#[a]⟩ : Str) = .str ⟨#[c]⟩ ∧ V.str z = .str y ∧ Q c y := ⟨a, z, rfl, rfl, h⟩
end
section
variable {K : PySem.W.Frag} {σ : L2.St} {H : Hp} {Q : VK} {p : Addr} {tt : TT} {vs : List Nat}
theorem filt_snoc {ns : List Int} {ok : Int → Bool} {i : Nat} {n : Int} (h : ns[i]? = some n) : ((ns.take (i + 1)).filter ok) = (ns.take i).filter ok ++ (if ok n = true then [n] else []) := by
  rw [List.take_succ, h, List.filter_append]
  cases e : ok n <;> simp [e]
/-- [x for x in ints if ..], a test that makes nothing -/
theorem f_lcFilt {j : Nat} {ns : List Int} (hS : SqL K H p (ns.map V.int)) (hz : ns.length ≤ 90000) (ok : Int → Bool) (hw : ∀ x, wipe ((wipe σ vs).set j (some x)) vs = wipe σ vs) (hj : ∀ x, ((wipe σ vs).set j (some x))[j]? = some (some x))
    (ht : ∀ (i : Nat) n H' (Q' : Bool → Hp → Prop), ns[i]? = some n → Same H H' → Q' (ok n) H' → tt ((wipe σ vs).set j (some (.int n))) H' Q') (hd : ∀ D, H D = none → Q (.ref D) (upd H D (.lst ((ns.filter ok).map V.int)))) :
    ∃ a, V.ref p = .ref a ∧ (∃ xs, SqL K H a xs) ∧ tLcK (gName j) tt (tVar j) vs σ Q (Itl K a) H :=
  f_lcL hS (fun D i H' => H' = upd H D (.lst (((ns.take i).filter ok).map V.int))) (fun D _ => rfl) (fun D i H' nD _ e => by rw [e]; exact (same_new nD).seq hS)
    (fun D i x H' nD hx e => by
      obtain ⟨n, hn, rfl⟩ := map_at hx
      refine ⟨hw _, ht i n H' _ hn (by rw [e]; exact same_new nD) ?_⟩
      have sn := filt_snoc (ok := ok) hn
      subst e
      cases ho : ok n with
      | true =>
        rw [ho] at sn
        refine iteT ⟨_, hj _, _, upd_same, sz_lt ?_, ?_⟩
        · rw [List.length_map]
          have h1 := List.length_filter_le ok (ns.take i)
          rw [List.length_take] at h1; omega
        · rw [upd_upd, sn, List.map_append]; rfl
      | false =>
        rw [ho] at sn
        refine iteF ?_
        show upd H D _ = upd H D _
        rw [sn]; simp)
    fun D H' nD e => by
      rw [e, List.length_map, List.take_length]
      exact hd D nD
theorem filt_range {m i : Nat} {ok : Nat → Bool} : (List.range (i + 1)).filter ok = (List.range i).filter ok ++ (if ok i = true then [i] else []) := by
  rw [List.range_succ, List.filter_append]
  cases e : ok i <;> simp [e]
/-- [k for k in range(m) if ..], a test that makes nothing -/
theorem f_lcFiltR {j : Nat} {z : Int} {m : Nat} (hm : z = m) (hz : m ≤ 90000) (ok : Nat → Bool) (hw : ∀ x, wipe ((wipe σ vs).set j (some x)) vs = wipe σ vs) (hj : ∀ x, ((wipe σ vs).set j (some x))[j]? = some (some x))
    (ht : ∀ (i : Nat) H' (Q' : Bool → Hp → Prop), i < m → Same H H' → Q' (ok i) H' → tt ((wipe σ vs).set j (some (.int (i : Int)))) H' Q') (hd : ∀ D, H D = none → Q (.ref D) (upd H D (.lst (((List.range m).filter ok).map fun k : Nat => V.int (k : Int))))) :
    ∃ j' : Int, [V.int z] = [.int j'] ∧ -(2 ^ 62) ≤ j' ∧ j' < 2 ^ 62 ∧ tLcK (gName j) tt (tVar j) vs σ Q (Itr 0 j'.toNat) H := by
  subst hm
  refine f_lcR (by omega) (by omega) (fun D i H' => H' = upd H D (.lst (((List.range i).filter ok).map fun k : Nat => V.int (k : Int)))) (fun D _ => rfl)
    (fun D i H' nD hi e => ?_) fun D H' nD e => ?_
  · have hi : i < m := by omega
    refine ⟨hw _, ht i H' _ hi (by rw [e]; exact same_new nD) ?_⟩
    have sn := filt_range (m := m) (i := i) (ok := ok)
    subst e
    cases ho : ok i with
    | true =>
      rw [ho] at sn
      refine iteT ⟨_, hj _, _, upd_same, sz_lt ?_, ?_⟩
      · rw [List.length_map]
        have h1 := List.length_filter_le ok (List.range i)
        rw [List.length_range] at h1; omega
      · rw [upd_upd, sn, List.map_append]; rfl
    | false =>
      rw [ho] at sn
      refine iteF ?_
      show upd H D _ = upd H D _
      rw [sn]; simp
  · rw [e, Int.toNat_natCast]
    exact hd D nD
end
section
variable {K : PySem.W.Frag} {H : Hp} {Q : VK} {p : Addr} {xs : List V} {v : V}
theorem g_ixT {z : Int} (hs : SqT K H p xs) (ha : atI xs z = some v) (h : Q v H) : rIxT K (.ref p) (.int z) H Q := ⟨p, xs, z, v, rfl, rfl, hs, ha, h⟩
theorem g_lenT {Q : List V → Prop} (hs : SqT K H p xs) (h : Q xs) : ∃ p' ys, [V.ref p] = [.ref p'] ∧ (SqL K H p' ys ∨ SqT K H p' ys) ∧ Q ys := ⟨p, xs, rfl, .inr hs, h⟩
theorem g_isiS {x : Str} {U : String} {b : Bool} (e : kitB "str" U = some b) (h : Q (.bl b) H) : rIsi K [.str x, .ty U] H Q := g_isiB (.base (.str _)) e h
theorem g_isiI {i : Int} {U : String} {b : Bool} (e : kitB "int" U = some b) (h : Q (.bl b) H) : rIsi K [.int i, .ty U] H Q := g_isiB (.base (.int _)) e h
end
theorem log_small {i : Int} (h0 : 0 ≤ i) (h : i ≤ 1000000) : i.natAbs.log2 < 1920 := by
  by_cases hz : i.natAbs = 0
  · rw [hz]; decide
  · exact Nat.lt_trans ((Nat.log2_lt hz (k := 20)).mpr (by omega)) (by decide)
theorem my_c0 {X : Cx} {k j : Nat} {x : Str} {sp : Sp} {dvs : List V} {p pos : Pos} (c : C8.Cal X.prog X.w X.K X.mg X.base k x sp dvs) (hr : Room j X.A) (hk : k ≤ j) (hg : Gl X x) (hdb : (x == ("__debug__" : Str)) = false := by decide) : PE X (.Call (.Name x p) [] [] pos) (tCall sp dvs C8.E0 tNil) := by
  obtain ⟨f, fd, ps, ds, F, hm, kp, b, d⟩ := c.ex
  exact pe_call0 F (hr.mono hk) hg hm kp b d C8.pass0 hdb
section
variable {σ : L2.St} {H : Hp} {Q : VK} {ta tb tc : TE} {r r' : R2}
theorem g_chain (h : ta σ H fun x H1 => tb σ H1 fun y H2 => r x y H2 fun z H3 => ∃ k, z = .bl k ∧ (if k = true then tc σ H3 fun w' H4 => r' y w' H4 Q else Q (.bl false) H3)) : tChain r r' ta tb tc σ H Q := h
end
section
variable {σ : L2.St} {H : Hp} {Q : VK} {ta : TE}
theorem g_notV (h : ta σ H fun x H1 => ∃ c, x = .bl c ∧ Q (.bl (!c)) H1) : tNotV ta σ H Q := h
end
section
variable {σ : L2.St} {H : Hp} {t : TG} {ts : TGs} {x : V} {r : List V} {Q : L2.St → Hp → Prop}
theorem g_gcons (h : t x σ H fun σ' H' => ts r σ' H' Q) : gCons t ts (x :: r) σ H Q := by first | exact h | exact ⟨x, r, rfl, h⟩
theorem g_gnil (h : Q σ H) : gNil [] σ H Q := by first | exact h | exact ⟨rfl, h⟩
end
end WL
set_option Elab.async false
set_option linter.all false
set_option maxRecDepth 100000
set_option maxHeartbeats 4000000
namespace WExc
open PySem PySem.Spec PyProof.Rows L2 NdefX PySem.W
/-! ### ValueError.__init__ bound to an instance (what super().__init__ gives), called -/
section
open PySem.Calls
variable {prog : Program} {w : World} {A : Around} {E : Value → Shared → Prop} {h : Heap} {g : Array GenState} {d : Drawn} {t : Nat} {os : OsState}
variable {nm q : Str} {C N : Addr} {bs bm : List Value} {hdct : Bool} {sn : List Str} {sub : List Value} {ab : Bool} {col : Option Bool} {dd : Option Addr} {k0 k1 k2 k3 k5 : Option Value}
theorem call_mwV {u e t0 : Addr} {rest : List Value} {Q : Value → Shared → Prop}
    (hC : h.get? C = some (excClassObj nm q C N bs bm hdct sn sub ab col dd k0 k1 k2 k3 k5 "ValueError.__new__")) (he : h.get? e = some (HandSPX.excO C t0)) (hu : h.get? u = some (kxs_mw "ValueError.__init__" e)) (hrest : rest.length ≤ sizeLine)
    (hq : ∀ h' t1, (∀ b o, b ≠ e → h.get? b = some o → h'.get? b = some o) → h'.get? e = some (HandSPX.excO C t1) → Q .none ⟨h', g, d, t, os⟩) :
    wpAny (model prog w) A (call (.ref u) rest) Q E ⟨h, g, d, t, os⟩ := by
  refine wpAny_call (codeAny_of_tree ?_)
  show wpAny _ A.in1 (callAny (.ref u) ⟨rest, []⟩) _ _ _
  simp only [callAny]
  refine wpAny_bind (wpAny_load hu ?_)
  simp only [kxs_mw, show (Value.type "method-wrapper" == Value.type "method" || Value.type "method-wrapper" == Value.type "builtin_function_or_method" || Value.type "method-wrapper" == Value.type "method-wrapper") = true by decide, if_true]
  refine W.KFB.if_so (by decide) ?_
  refine wpAny_bind (check_bound_init F.excBase_ValueError.toExcCallFacts hC he rfl ?_)
  refine wpAny_bind (wpAny_pure (wpAny_pure ?_))
  refine ⟨Code.quiet_builtin _ (by decide +kernel), codeAny_builtin F.excBase_ValueError.initEntry ?_⟩
  rw [Around.under_plainId F.excBase_ValueError.init.plain _]
  wp_walk
  refine hq _ h.objs.size (fun b o hb ho => ?_) ?_
  · rw [Heap.get?_update_other _ _ (Ne.symm hb)]
    exact Heap.get?_push_of_some _ ho
  · rw [Heap.get?_update_self _ (Heap.get?_push_of_some _ he) rfl]
    rfl
end
/-- what the written part says of the class's own __init__ that says super() -/
structure SupK (P : Program) (K : PySem.W.Frag) (C cc cda : Addr) : Prop where
  cell : ∃ cl cld csl, K.lookup cc = some (⟨cl, cld, .cell (some (.ref C)), csl⟩ : Obj)
  code : ∃ ccl cdd vs ccs file tf, K.lookup cda = some (⟨ccl, cdd, .fields vs, ccs⟩ : Obj) ∧ vs[2]? = some (.str file tf) ∧ ((P.main.file : Str) == file) = true
  opq : nsIn K cStatics "thirdparty.any" = some none
  top : (P.main.scope.names.lookup ("super" : Str)).isSome = false
  sup : ks_superIn K C C "__init__" = some (some (.builtin "ValueError.__init__"))
abbrev supF (name qual : Str) (params : Arguments) (body : List Stmt) (scope : Scope) (cc cda : Addr) : NF := ⟨name, qual, params, body, scope, [("__class__", cc)], cda⟩
section
variable {CX : CXT} {P : Program} {w : World} {K : PySem.W.Frag} {mg : Str → Option Value} {base : Heap} {N ps ps' : List Str} {f cc cda C : Addr} {k : Nat} {sp : Sp} {name qual : Str} {params : Arguments} {body rest : List Stmt} {scope : Scope} {dV kV doc pm ct oc : Value} {an od : Option Addr} {osl : Array (Option Value)}
  {e : Expr} {es : List Expr} {p0 p1 p2 p3 p4 : Pos} {ar : Arg}
/-- the first statement super().__init__(..), then the rest -/
theorem sup_stmt {A : Around} {outer : List Env} {s0 s : Shared} {H0 H : Hp} {E : XK} {a : Addr} {σ : L2.St} {ta : TA} {t : TS} {D : Ends}
    (lk : K.lookup f = some (⟨oc, od, .func (fnX name qual params body scope [("__class__", cc)] dV kV doc pm an (.ref cda) ct), osl⟩ : Obj)) (T : OexC K C) (U : SupK P K C cc cda)
    (hself : (params.posonlyargs ++ params.args).head? = some ar) (har : ar.arg = "self") (hN : N[0]? = some ("self" : Str)) (hσ : σ[0]? = some (some (.ref a))) (hkself : scope.names.lookup ("self" : Str) = some .local)
    (hks : scope.names.lookup ("super" : Str) = some .globalImplicit) (hkc : scope.names.lookup ("__class__" : Str) = some .free) (hm : mg "super" = none)
    (he : starEach (e :: es) (envF (supF name qual params body scope cc cda) f s0.heap.objs.size) = (false, eval e (envF (supF name qual params body scope cc cda) f s0.heap.objs.size)) :: starEach es (envF (supF name qual params body scope cc cda) f s0.heap.objs.size))
    (hpl : (backTo p3 (starEach es (envF (supF name qual params body scope cc cda) f s0.heap.objs.size))).any (·.1) = false)
    (ha : PA (ncx CX P w K mg base N (supF name qual params body scope cc cda) f A outer s0 H0 E) (e :: es) ta) (hr : PSs (ncx CX P w K mg base N (supF name qual params body scope cc cda) f A outer s0 H0 E) rest t)
    (I : Inv (ncx CX P w K mg base N (supF name qual params body scope cc cda) f A outer s0 H0 E) [] σ H s) (hx : H a = some (exo a C none))
    (hq : ta σ H fun ws H1 => ws.length ≤ 1000 ∧ H1 a = some (exo a C none) ∧ t D σ H1)
    (hcl : eval (.Call (.Attribute (.Call (.Name "super" p0) [] [] p1) "__init__" p2) (e :: es) [] p3) (envF (supF name qual params body scope cc cda) f s0.heap.objs.size) = (do
      let ov ← attributeBase (.Call (.Name "super" p0) [] [] p1) "__init__" (envF (supF name qual params body scope cc cda) f s0.heap.objs.size) (eval (.Call (.Name "super" p0) [] [] p1) (envF (supF name qual params body scope cc cda) f s0.heap.objs.size))
      standAt p2.atName
      let (fv, first) ← holding [ov] (getMethod ov "__init__" (pure false))
      callWith p3 fv first (backTo p3 (starEach (e :: es) (envF (supF name qual params body scope cc cda) f s0.heap.objs.size))) []))
    (hkf : scope.kind = .function) (hint : interactive (envF (supF name qual params body scope cc cda) f s0.heap.objs.size) = false)
    (hsw : swapsWith (.Call (.Attribute (.Call (.Name "super" p0) [] [] p1) "__init__" p2) (e :: es) [] p3) none p4.line (envF (supF name qual params body scope cc cda) f s0.heap.objs.size) = pure false) :
    _root_.PySem.wpAt (model P w) (A.deeper (envF (supF name qual params body scope cc cda) f s0.heap.objs.size)) (.func body (envF (supF name qual params body scope cc cda) f s0.heap.objs.size))
      (execs (.Expr (.Call (.Attribute (.Call (.Name "super" p0) [] [] p1) "__init__" p2) (e :: es) [] p3) p4 :: rest) (envF (supF name qual params body scope cc cda) f s0.heap.objs.size))
      (SP (ncx CX P w K mg base N (supF name qual params body scope cc cda) f A outer s0 H0 E) [] D) (ncx CX P w K mg base N (supF name qual params body scope cc cda) f A outer s0 H0 E).xe s := by
  obtain ⟨nm, q, N', bs, bm, sn, sub, ab, col, dd, k0, k1, k2, k3, k5, hC, hbm⟩ := T.cls
  have hcl2 : PySem.W.clsIn K C = some { name := nm, bases := bs, mro := .ref C :: bm, ns := N', qualname := q, hasDict := true, slotNames := sn, subclasses := sub, abstract := ab, collection := col, hasDel := false } := by unfold PySem.W.clsIn; rw [hC] <;> rfl
  obtain ⟨cl, cld, csl, hcell⟩ := U.cell
  obtain ⟨ccl, cdd, vs, ccs, file, tf, hcode, hvs, hfile⟩ := U.code
  have X : K.In s.heap := I.kIn
  refine ks_wpAt_execs_cons ?_
  refine ks_wpAt_Expr_any ?_ hint hsw
  refine ks_wpAt_MethodCall (pl := pure false) ?_ hcl
  refine ks_wpAt_super_base (env := envF (supF name qual params body scope cc cda) f s0.heap.objs.size) hks hkc (by decide) rfl (X _ _ lk) rfl hself rfl (X _ _ hcode) rfl hvs hfile U.top ?_
  obtain ⟨mb, b1, b2⟩ := I.mod.blt
  refine ks_loadName_global hkf hks (Calls.loadGlobal_builtin (I.mod.glob.keeps I.bk) hm (b1.keeps I.bk) ((b2 "super" (by decide)).trans (show bootBuiltins "super" = some (.type "super") by first | boot_by_name | rfl | kernel_rfl)) ⟨rfl, ?_⟩)
  refine wpAny_loadName_free hkf hkc rfl ⟨_, X _ _ hcell, rfl⟩ ?_
  obtain ⟨m, hns, hloc⟩ := I.loc
  obtain ⟨u, ru, hu⟩ := hloc 0 "self" (.ref a) hN hσ (.inl hkself)
  obtain rfl : u = Value.ref a := ru
  have hms : m "self" = some (.ref a) := by
    rcases hu with ⟨_, z⟩ | ⟨z, _⟩
    · exact z
    · have z' : scope.names.lookup ("self" : Str) = some NameKind.cell ∨ scope.names.lookup ("self" : Str) = some .free := z
      rw [hkself] at z'
      rcases z' with z' | z' <;> cases z'
  rw [har]
  refine wpAny_loadName_local hkf hkself hns hms ?_
  obtain ⟨t1, hoe⟩ := exo_at I.hok hx
  have hD := X _ _ hC
  refine ks_wpAny_isType_cls hD rfl ⟨rfl, ?_⟩
  obtain ⟨hh, g, d, tk, os⟩ := s
  have hsubD : PySem.W.mroIn K C (.ref C) = some true := by
    unfold PySem.W.mroIn
    rw [hcl2, Option.bind_some]
    rw [if_neg (show ¬ (List.isEmpty (Value.ref C :: bm) = true) from Bool.false_ne_true)]
    simp
  refine ks_wpAny_call_super hD rfl hoe rfl (fun c e => by cases e) (looks_mroIn X hsubD) (fun h1 e1 kk1 => ?_)
  have I1 : Inv (ncx CX P w K mg base N (supF name qual params body scope cc cda) f A outer s0 H0 E) [] σ H ⟨h1, g, d, tk, os⟩ := I.kept (t' := tk) kk1
  have X1 : K.In h1 := I1.kIn
  obtain ⟨t2, hoe1⟩ := exo_at I1.hok hx
  have II : PySem.W.InstAt h1 a { cls := .ref C, dict := none, data := .fields #[.ref t2, .none, .none, .none, .bool false, .none] } C none := ⟨hoe1, rfl, rfl, trivial⟩
  have hVE : (Value.ref C :: bm).contains (.type "ValueError") = true := (PySem.HandSPX.refsVE_contains "ValueError" (.ref C :: bm) hbm).trans (by decide +kernel)
  have hsubV : PySem.W.Looks (model P w) h1 (isInstance (.ref a) (.type "ValueError")) true := II.type.andThen (PySem.W.looks_mroIn X1 (by unfold PySem.W.mroIn; rw [hcl2, Option.bind_some, if_neg (show ¬ (List.isEmpty (Value.ref C :: bm) = true) from Bool.false_ne_true), hVE]))
  have hsup := U.sup
  unfold ks_superIn at hsup
  rw [hcl2] at hsup
  refine kxs_getMethod kxs_ValueError e1 (looks_opaque X1 U.opq) (l₀ := .ref C :: bm) (fun A Q E s k q => wpAny_bind ((looks_clsIn X1 hcl2) A _ E s k (wpAny_pure q))) rfl X1 hsup hsubV (ks_ne X1 II hcl2) (by decide) ?_
  have kk2 : ∀ b o, h1.get? b = some o → (h1.push (kxs_mw "ValueError.__init__" a)).get? b = some o := fun b o e => Heap.get?_push_of_some _ e
  have hmw : (h1.push (kxs_mw "ValueError.__init__" a)).get? h1.objs.size = some (kxs_mw "ValueError.__init__" a) := Heap.get?_push_size _ rfl
  have I2 : Inv (ncx CX P w K mg base N (supF name qual params body scope cc cda) f A outer s0 H0 E) [] σ H ⟨h1.push (kxs_mw "ValueError.__init__" a), g, d, tk + 1, os⟩ := I1.kept (t' := tk + 1) kk2
  have nH : H h1.objs.size = none := I1.hok.fresh (Nat.le_refl _)
  have I3 : Inv (ncx CX P w K mg base N (supF name qual params body scope cc cda) f A outer s0 H0 E) [(h1.objs.size, kxs_mw "ValueError.__init__" a)] σ H ⟨h1.push (kxs_mw "ValueError.__init__" a), g, d, tk + 1, os⟩ := I2.pins_of fun p hp => by
    obtain rfl : p = (h1.objs.size, kxs_mw "ValueError.__init__" a) := by simpa using hp
    exact ⟨hmw, nH, Nat.ne_of_gt I1.lt, I1.nofs (Nat.le_refl _), fun v z => by cases z⟩
  rw [he]
  refine kxs_callWith (i := "ValueError.__init__") (x := a) hpl (Calls.evalArgs_plain ?_)
  have hrun := ha.run p3 _ _ σ H _ I3 hq
  have he' : starEach (e :: es) (ncx CX P w K mg base N (supF name qual params body scope cc cda) f A outer s0 H0 E).env = _ := he
  rw [he'] at hrun
  refine thn hrun fun us s1 ⟨ws, H1, I4, r1, hl, hx1, q1⟩ => ?_
  have hu4 := (I4.pin _ (List.mem_append_right _ (List.mem_singleton.mpr rfl))).1
  refine ⟨hu4, ?_⟩
  obtain ⟨t3, hoe2⟩ := exo_at I4.hok hx1
  obtain ⟨h4, g4, d4, tk4, os4⟩ := s1
  refine call_mwV (I4.kIn _ _ hC) hoe2 hu4 (by show us.length ≤ sizeLine; rw [← Paired.length r1, sizeLine_eq]; omega) fun h5 t5 k5' hx5 => ?_
  have I5 := I4.write (t' := tk4) (x := a) (e := a) (o := exo a C none) (by rw [hx1]; exact True.intro) (.inl rfl) k5' ⟨_, hx5⟩ (exo_ok hx5)
  have eu : upd H1 a (exo a C none) = H1 := by
    funext b
    by_cases hb : b = a
    · rw [hb, upd_same, hx1]
    · rw [upd_ne hb]
  rw [eu] at I5
  have I6 : Inv (ncx CX P w K mg base N (supF name qual params body scope cc cda) f A outer s0 H0 E) [] σ H1 _ := I5.pins_of fun p hp => absurd hp (by simp)
  exact wpAt_of_wpAny (hr.run [] _ σ H1 D I6 q1)
/-- THE RULE: an own exception's __init__ (self, ..) whose first statement is super().__init__(..) -/
theorem fn_sup (lk : K.lookup f = some (⟨oc, od, .func (fnX name qual params body scope [("__class__", cc)] dV kV doc pm an (.ref cda) ct), osl⟩ : Obj)) (hcd : codeIn K (.ref cda) qual = true) (S : NScope N ps ["__class__"] scope) (T : OexC K C) (U : SupK P K C cc cda)
    (hself : (params.posonlyargs ++ params.args).head? = some ar) (har : ar.arg = "self") (hps : ps.head? = some ("self" : Str)) (hks : scope.names.lookup ("super" : Str) = some .globalImplicit) (hm : mg "super" = none)
    (hb : body = .Expr (.Call (.Attribute (.Call (.Name "super" p0) [] [] p1) "__init__" p2) (e :: es) [] p3) p4 :: rest)
    (hfix : ∀ L : Addr, starEach (e :: es) (envF (supF name qual params body scope cc cda) f L) = (false, eval e (envF (supF name qual params body scope cc cda) f L)) :: starEach es (envF (supF name qual params body scope cc cda) f L) ∧
      (backTo p3 (starEach es (envF (supF name qual params body scope cc cda) f L))).any (·.1) = false ∧
      eval (.Call (.Attribute (.Call (.Name "super" p0) [] [] p1) "__init__" p2) (e :: es) [] p3) (envF (supF name qual params body scope cc cda) f L) = (do
        let ov ← attributeBase (.Call (.Name "super" p0) [] [] p1) "__init__" (envF (supF name qual params body scope cc cda) f L) (eval (.Call (.Name "super" p0) [] [] p1) (envF (supF name qual params body scope cc cda) f L))
        standAt p2.atName
        let (fv, first) ← holding [ov] (getMethod ov "__init__" (pure false))
        callWith p3 fv first (backTo p3 (starEach (e :: es) (envF (supF name qual params body scope cc cda) f L))) []) ∧
      interactive (envF (supF name qual params body scope cc cda) f L) = false ∧
      swapsWith (.Call (.Attribute (.Call (.Name "super" p0) [] [] p1) "__init__" p2) (e :: es) [] p3) none p4.line (envF (supF name qual params body scope cc cda) f L) = pure false)
    (len : ∀ vs H Q E, sp vs H Q E → vs.length = ps.length)
    (hbody : ∀ (A : Around) (outer : List Env) (s : Shared) (H : Hp) (vs : List V) (Q : VK) (E : XK), Room k (A.deeper (envF (supF name qual params body scope cc cda) f s.heap.objs.size)) → sp vs H Q E →
      ∃ a vs' ta t, vs = .ref a :: vs' ∧ PA (ncx CX P w K mg base N (supF name qual params body scope cc cda) f A outer s H E) (e :: es) ta ∧ PSs (ncx CX P w K mg base N (supF name qual params body scope cc cda) f A outer s H E) rest t ∧
        H a = some (exo a C none) ∧ ta (startF N vs [none]) H (fun ws H1 => ws.length ≤ 1000 ∧ H1 a = some (exo a C none) ∧ t { nx := fun _ H' => Q .non H', rt := Q } (startF N vs [none]) H1)) :
    FnOk P w K mg base CX (k + 1) f (fnX name qual params body scope [("__class__", cc)] dV kV doc pm an (.ref cda) ct) ps sp := by
  refine ⟨len, fun A outer s H args us vs Q E hr e0 hbd r hsp => ?_⟩
  have hl := len _ _ _ _ hsp
  have KB : ∀ b o, K.lookup b = some o → s.heap.get? b = some o ∧ H b = none := fun b o z => e0.bs b o (e0.mod.kin b o z)
  have KX : K.In s.heap := e0.mod.kin.keeps fun b o e => (e0.bs b o e).1
  have lim : s.heap.NoLimit := e0.mod.nolimit.keeps fun b o e => (e0.bs b o e).1
  obtain ⟨cl, cld, csl, hcell⟩ := U.cell
  have hpl : ps.length ≤ N.length := by
    have q := congrArg List.length S.pre
    rw [List.length_take, List.length_append] at q
    simp at q; omega
  refine ks_codeAny_call_defAt (fd := fnX name qual params body scope [("__class__", cc)] dV kV doc pm an (.ref cda) ct) (body := body) (binds := ps.zip us) hr.depth (KX _ _ lk) rfl lim (PySem.W.codeRec_of KX hcd) rfl hbd S.nocell (fun ⟨n, _⟩ hy => S.par n (List.of_mem_zip hy).1) (fun h₁ hns kp => ?_) S.co S.gen S.kind
  show _root_.PySem.wpAt (model P w) (A.deeper (envF (supF name qual params body scope cc cda) f s.heap.objs.size)) (.func body (envF (supF name qual params body scope cc cda) f s.heap.objs.size)) (execs body (envF (supF name qual params body scope cc cda) f s.heap.objs.size)) _ _ _
  obtain ⟨a, vs', ta, t, rfl, ha, ht, hx, hq⟩ := hbody A outer s H vs Q E (hr.deeper _) hsp
  have C0 : CellsAt [("__class__", cc)] ["__class__"] [none] s.heap H := by
    refine ⟨rfl, fun y c e => ?_, fun x y c e1 e2 => ?_, fun i y e => ?_⟩
    · have z := PySem.mem_of_lookup e
      simp at z
      obtain ⟨rfl, rfl⟩ := z
      exact ⟨(KB _ _ hcell).2, _, _, (KB _ _ hcell).1, rfl⟩
    · have z1 := PySem.mem_of_lookup e1
      have z2 := PySem.mem_of_lookup e2
      simp at z1 z2
      rw [z1.1, z2.1]
    · cases i with
      | zero =>
        have : y = "__class__" := by simpa using e.symm
        subst this
        exact ⟨cc, rfl, fun v z => by simp at z⟩
      | succ i => simp at e
  have I : Inv (ncx CX P w K mg base N (supF name qual params body scope cc cda) f A outer s H E) [] (startF N (.ref a :: vs') [none]) H { s with heap := h₁, toks := s.toks + (ps.zip us).length } :=
    inv_startN (F := supF name qual params body scope cc cda) S hr.hd e0 hl r C0 hns kp
  obtain ⟨f1, f2, f3, f4, f5⟩ := hfix s.heap.objs.size
  have hps1 : ∃ pr : List Str, ps = ("self" : Str) :: pr := by
    cases ps with
    | nil => cases hps
    | cons x pr => exact ⟨pr, by rw [Option.some.inj hps]⟩
  obtain ⟨pr, rfl⟩ := hps1
  have hN0 : N[0]? = some ("self" : Str) := by
    have q := S.pre
    cases N with
    | nil => simp at hpl
    | cons n r =>
      have q' := congrArg List.head? q
      simp at q'
      rw [q']; rfl
  have hfree := S.frk "__class__" (by simp)
  have hk := sup_stmt (s0 := s) (H0 := H) (D := { nx := fun _ H' => Q .non H', rt := Q }) lk T U hself har hN0 rfl (S.par _ (by simp)) hks hfree hm f1 f2 ha ht I hx hq f3 S.kind f4 f5 (p4 := p4)
  have fin : ∀ {s' : Shared} {σ' : L2.St} {H' : Hp} {v : V} {u : Value}, Inv (ncx CX P w K mg base N (supF name qual params body scope cc cda) f A outer s H E) [] σ' H' s' → RelV v u → Q v H' → CE outer P w H s Q u s' :=
    fun {s' σ' H' v u} J rv q => ⟨v, H', J.os, J.bare, J.base, J.hok, rv, q⟩
  have key := ks_wpAt_mono hk (Q' := fun fl s' => CR CX outer P w H s Q E (.ok (.ret (match fl with | .ret v => v | _ => .none))) s') (fun fl s' hs => ?_) (fun e s' h => h)
  · rw [← hb] at key
    exact key
  · cases fl with
    | ret u =>
      obtain ⟨v, σ', H', J, rv, q⟩ := hs
      exact fin J rv q
    | next =>
      obtain ⟨σ', H', J, q⟩ := hs
      exact fin (v := V.non) (u := Value.none) J rfl q
    | brk =>
      obtain ⟨_, _, _, q⟩ := hs
      exact False.elim q
    | cont =>
      obtain ⟨_, _, _, q⟩ := hs
      exact False.elim q
end
/-! ### isinstance of a caught error that has its own dict -/
section
open PySem.Calls
variable {prog : Program} {w : World} {A : Around} {E : Value → Shared → Prop} {s : Shared} {K : PySem.W.Frag} {x D : Addr} {ox : Obj} {od : Option Obj}
theorem findObj_dataO {C : Addr} {name : Str} {a g : Value} (hc : (clsIn K C).isSome = true) (ha : findIn K (.ref C) name = some (some a)) (hg : specialIn K a "__get__" = some (some g)) (ht : takesIn K a = some true) : findObj K C od name = some (.bind g a) := by
  obtain ⟨cd, hc⟩ := Option.isSome_iff_exists.mp hc
  unfold findObj
  rw [hc, Option.bind_some, ha, Option.bind_some]
  simp [hg, ht]
theorem kin_classO {Q : Option Value → Shared → Prop} (hga : findIn K (.ref D) "__getattribute__" = some (some (.builtin "BaseException.__getattribute__"))) (hgt : findIn K (.ref D) "__getattr__" = some none) (hsub : subIn K (.ref D) (.type "BaseException") = some true)
    (hdct : hasDictIn K D = true) (ha : findIn K (.ref D) "__class__" = some (some (.builtin "object.__class__")))
    (hn : specialIn K (.builtin "object.__class__") "__get__" = some (some (.builtin "getset_descriptor.__get__"))) (htk : takesIn K (.builtin "object.__class__") = some true) (hm : mroIn K D (.type "object") = some true)
    (X : K.In s.heap) (I : InstAt s.heap x ox D od) (h : Q (some (.ref D)) { s with toks := s.toks + 1 }) : wpAny (model prog w) A (getAttr? (.ref x) "__class__") Q E s := by
  have hf : findObj K D od "__class__" = some (.bind (.builtin "getset_descriptor.__get__") (.builtin "object.__class__")) := findObj_dataO (by obtain ⟨cd, hc, _⟩ := any_some hdct; rw [hc]; rfl) ha hn htk
  obtain ⟨hp, g, d, t, os⟩ := s
  have L0 := I.type (M := model prog w)
  have L1 := looks_findIn (M := model prog w) X hga
  have L2 := looks_findIn (M := model prog w) X hgt
  have L3 := looks_find (M := model prog w) X I hf
  have sub : Looks (model prog w) hp (isInstance (.ref x) (.type "BaseException")) true := L0.andThen (looks_subIn X hsub)
  have hx0 : (false && onTheHeap (Value.builtin "BaseException.__getattribute__")) = false := rfl
  have hx2 : (Value.builtin "BaseException.__getattribute__" == Value.builtin "object.__getattribute__") = false := by decide +kernel
  have hx1 : (onTheHeap (Value.ref D) && Value.builtin "BaseException.__getattribute__" == Value.builtin "object.__getattribute__") = false := by rw [hx2]; rfl
  unfold getAttr? getAttrBy? getAttrBy
  refine wpAny_bind (wpAny_mkText (wpAny_bind (wpAny_attempt (wpAny_holding (wpAny_bind (L0.at (wpAny_bind (L1.at ?_))))))))
  show wpAny _ _ (if (onTheHeap (Value.ref D) && Value.builtin "BaseException.__getattribute__" == Value.builtin "object.__getattribute__") = true then _ else _) _ _ _
  rw [hx1, if_neg Bool.false_ne_true]
  unfold getAttrByItsOwn hookBefore
  refine wpAny_bind ?_
  rw [if_pos (show onTheHeap (Value.ref D) = true from rfl)]
  refine L2.at ?_
  refine wpAny_bind (wpAny_attempt (wpAny_holding ?_))
  unfold callGetattribute
  rw [hx0, if_neg Bool.false_ne_true]
  unfold boundAndCalled
  rw [PySem.F.excAttr_ValueError.ga.bind (.ref x)]
  refine wpAny_bind (wpAny_pure ?_)
  show wpAny _ _ (call (.builtin "BaseException.__getattribute__") [.ref x, .str "__class__" t]) _ _ _
  refine wpAny_call (codeAny_call_builtin PySem.F.excAttr_ValueError.ga.plain PySem.F.entry_bexc_ga ?_)
  refine @check_slot (model prog w) _ _ ⟨hp, g, d, t + 1, os⟩ "BaseException.__getattribute__" "BaseException" "__getattribute__" (.ref x) [.str "__class__" t] [] _ (by decide +kernel) (by decide +kernel) sub (PySem.F.args_bexc_ga (.ref x) (.str "__class__" t)) ?_
  unfold Builtin.«object.__getattribute__»
  refine wpAny_bind (wpAny_of_eq (a := ((Value.ref x : Value), [Value.str "__class__" t])) (by first | rfl | (simp only [slotArgs]; rfl)) ?_)
  refine wpAny_bind (wpAny_pure (wpAny_bind (L0.at (wpAny_bind (L3.at ?_)))))
  show wpAny _ _ (holding [Value.builtin "object.__class__"] (call (.builtin "getset_descriptor.__get__") [.builtin "object.__class__", .ref x, .ref D]) >>= ret) _ _ _
  refine wpAny_bind (wpAny_holding (wpAny_call (class_get (s := ⟨hp, g, d, t + 1, os⟩) (ox := ox) (od := od) X I hm ?_)))
  refine wpAny_pure ?_
  show wpAny _ _ (handedOut (.ref D)) _ _ _
  rw [handedOut_of (v := .ref D) rfl]
  first
    | exact wpAny_pure (wpAny_pure h)
    | exact wpAny_pure h
    | exact wpAny_pure (wpAny_bind (wpAny_pure (wpAny_pure h)))
theorem kitx_excO (hga : findIn K (.ref D) "__getattribute__" = some (some (.builtin "BaseException.__getattribute__"))) (hgt : findIn K (.ref D) "__getattr__" = some none) (hsub : subIn K (.ref D) (.type "BaseException") = some true) (hdct : hasDictIn K D = true) (ha : findIn K (.ref D) "__class__" = some (some (.builtin "object.__class__")))
    (hn : specialIn K (.builtin "object.__class__") "__get__" = some (some (.builtin "getset_descriptor.__get__"))) (htk : takesIn K (.builtin "object.__class__") = some true) (hm : mroIn K D (.type "object") = some true) :
    KitX K (.ref x) (.ref D) (fun h => InstAt h x ox D od) where
  ty := fun _ _ _ I => I.type
  it := fun _ _ X _ => by
    obtain ⟨cdD, hcD, _⟩ := any_some hdct
    unfold clsIn at hcD
    split at hcD
    · rename_i c' d' cd' sl' ho
      intro A' Q' E' s' k q
      unfold isType loadHead
      exact wpAny_bind (wpAny_loadPart (k _ _ (X _ _ ho)) (wpAny_pure q))
    · cases hcD
  ne := fun h tp dd its n sl X htp => by
    obtain ⟨cdD, hcD, _⟩ := any_some hdct
    refine Bool.eq_false_iff.mpr fun q => ?_
    have e : D = tp := Value.ref.inj (beq_iff_eq.mp q)
    subst e
    unfold clsIn at hcD
    split at hcD
    · rename_i c' d' cd' sl' ho
      have z := (X _ _ ho).symm.trans htp
      cases z
    · cases hcD
  ca := fun X I k => kin_classO hga hgt hsub hdct ha hn htk hm X I k
end
/-- isinstance(e, c), e the exception that the suite holds, its dict at d -/
def rIsD (K : PySem.W.Frag) (a : Addr) (cls : Value) (d : Option Addr) : List V → Hp → VK → Prop := fun xs H Q => ∃ (D dd : Addr) (fs : List (Str × V)) (c : V) (cv : Value) (b : Bool), cls = .ref D ∧ d = some dd ∧ L2.ExcC K D ∧ H dd = some (.xd fs) ∧ xs = [.ref a, c] ∧ (∀ u, RelV c u → u = cv) ∧ PySem.W.kitOne K (.ref D) cv = some b ∧ Q (.bl b) H
theorem call_isD {X : Cx} {a : Addr} {oe : Obj} {cls : Value} {d : Option Addr} {pn : List (Addr × Obj)} (hz : Zc cls d oe) (hf : ∃ vs, oe.data = .fields vs) (K : PySem.W.Frag) (e : X.K = K := by rfl) : CallR (X.suite a ((a, oe) :: pn)) (.builtin "isinstance") (rIsD K a cls d) := by
  subst e
  intro pins s σ H xs us Q I r h
  obtain ⟨D, dd, fs, c, cv, b, rfl, rfl, C, hdd, rfl, hcv, e, q⟩ := h
  cases r with
  | cons rx rr =>
    cases rr with
    | cons rt rr =>
      cases rr
      cases rx
      have ec := hcv _ rt
      subst ec
      obtain ⟨hget, _⟩ := I.pin (a, oe) (List.mem_append.mpr (.inl List.mem_cons_self))
      obtain ⟨vs, hv⟩ := hf
      have hx : ObjOk X.prog X.w H s.heap dd (.xd fs) := I.hok dd _ hdd
      obtain ⟨mA, hns, hr⟩ := hx
      obtain ⟨od, ho, hl⟩ := lookIn_ns hns
      have J : PySem.W.InstAt s.heap a oe D (some od) := by
        refine ⟨hget, hz.1, by unfold PySem.W.notCls; rw [hv] <;> rfl, by rw [hz.2]; exact ho⟩
      exact PySem.W.kia_one (kitx_excO C.hg C.hk C.hs C.hd C.ha C.hn C.ht C.hm) I.kIn J e (fun z => nomatch z) fun tk => ⟨.bl b, H, I.kept (t' := tk) fun _ _ z => z, rfl, q⟩
/-! ### several clauses «except C as n» -/
abbrev ACl := Value × Nat × (Addr → Value → Option Addr → TS)
def wManyAs (K : PySem.W.Frag) (Wout : WX) (D : Ends) : List ACl → WX
  | [] => Wout
  | (c, i, ts) :: r => fun cls d σ H => ∃ b, PySem.W.exmOne K cls c = some b ∧ (b = true → ∀ a, H a = none → ts a cls d { nx := fun σ' H' => D.nx (σ'.set i none) H', rt := D.rt, bk := fun σ' H' => D.bk (σ'.set i none) H', ct := fun σ' H' => D.ct (σ'.set i none) H' } (σ.set i (some (.ref a))) H) ∧ (b = false → wManyAs K Wout D r cls d σ H)
inductive HdsAs (X : Cx) : List ExceptHandler → List ACl → Prop
  | nil : HdsAs X [] []
  | cons {x n : Str} {i : Nat} {c : Value} {ts : Addr → Value → Option Addr → TS} {b₀ : Stmt} {suite : List Stmt} {np pos' : Pos} {hds : List ExceptHandler} {l : List ACl} (hc : Names X x c) (hi : X.N[i]? = some n) (hln : X.env.kindOf n = some .local)
      (hsu : ∀ (a : Addr) (oe : Obj) (cls : Value) (d : Option Addr) (pn : List (Addr × Obj)), Zc cls d oe → (∃ vs, oe.data = .fields vs) → PSs (X.suite a ((a, oe) :: pn)) (b₀ :: suite) (ts a cls d)) (r : HdsAs X hds l) :
      HdsAs X (.ExceptHandler (some (.Name x np)) (some n) (b₀ :: suite) pos' :: hds) ((c, i, ts) :: l)
section
variable {X : Cx} {body : List Stmt} {h₀ : ExceptHandler} {hds : List ExceptHandler} {l : List ACl} {pos : Pos} {tb : WX → TS} {Wout : WX}
theorem ps_try_manyAs (hs : X.stack = X.env :: X.outer) (hf : X.env.frame = some X.env.locals) (hN : X.N.Nodup) (tk : Takes X Wout)
    (hb : ∀ (W : WX) (pn : List (Addr × Obj)) (xe : Value → Shared → Prop), Takes (X.tr pn xe) W → PassesOwn (model X.prog X.w) X.A X.env xe → PSs (X.tr pn xe) body (tb W))
    (hh : HdsAs X (h₀ :: hds) l) : PS X (.Try body (h₀ :: hds) [] [] pos) (fun D σ H => tb (wManyAs X.K Wout D l) D σ H) := by
  refine ⟨fun pins s σ H D I h => ?_⟩
  have ok := I.ok
  have hfr : X.A.frames = some (X.env :: X.outer) := by rw [ok.frames, hs]
  refine wpAny_Try_except ?_
  refine wpAny_mono ((hb (wManyAs X.K Wout D l) (X.pn ++ pins) (fun e s₁ => wpAny (model X.prog X.w) X.A (noteFrame e X.env) (fun _ s₂ => wpAny (model X.prog X.w) X.A (setFlight e none) (fun _ s₃ =>
    wpAny (model X.prog X.w) X.A (handleBy e X.env (h₀ :: hds)) (SP X pins D) X.xe s₃) X.xe s₂) X.xe s₁) (fun u s' xx => ?_) PassesOwn.looking).run [] s σ H D (I.toTry _) h) (fun f s1 hsp => ?_) (fun e s1 he => he)
  · -- the catch
    obtain ⟨a, B, sI, pins', σ', H', cls, d, rfl, J', nb, up, sky, na, os, ag, w⟩ := xx
    have J : Inv X pins σ' H' sI := J'.ofTry ok
    have sky' : Sky B (X.env :: X.outer) a (Zc cls d) X.env.locals s'.heap := by rw [← hs]; exact sky
    show wpAny (model X.prog X.w) X.A (noteFrame (.ref a) X.env) _ _ _
    refine Sky.land Zc.steady hfr hf sky' fun h3 fl3 up3 => ?_
    have J3 : Inv X pins σ' H' { s' with heap := h3 } := J.landed nb fl3.1 (up.trans up3) os ag
    obtain ⟨oe3, vs3, he3, hz3, hd3⟩ := fl3.there
    have notFr : ∀ {h : Heap} {o : Obj} {vs : Array Value}, h.FunFrames B (X.env :: X.outer) → h.get? a = some o → o.data = .fields vs → a ∉ frs (X.env :: X.outer) := fun {h o vs} ff e dd hm => by
      obtain ⟨_, o', e', hnf⟩ := ff.mem hm
      rw [e] at e'; cases e'
      exact hnf _ dd
    have nfr := notFr fl3.2.2.1 he3 hd3
    have nL : a ≠ X.env.locals := fun z => nfr (List.mem_filterMap.mpr ⟨X.env, List.mem_cons_self, by rw [hf, z]⟩)
    have nF : a ∉ X.fs := fun hm => by
      obtain ⟨e, he, q⟩ := List.mem_filterMap.mp hm
      exact nfr (List.mem_filterMap.mpr ⟨e, List.mem_cons_of_mem _ he, q⟩)
    have S3 := J3.suite he3 hd3 na nL nF
    have go : ∀ {hds' : List ExceptHandler} {l' : List ACl}, HdsAs X hds' l' → wManyAs X.K Wout D l' cls d σ' H' →
        wpAny (model X.prog X.w) X.A (handleBy (.ref a) X.env hds') (SP X pins D) X.xe { s' with heap := h3 } := by
      intro hds' l' hk
      induction hk with
      | nil =>
        intro w
        refine wpAny_handleBy_nil ?_
        obtain ⟨k1, k2, k3, oe, vs, T, oT, ts', he, hz, hd, h1, hr⟩ := id fl3
        unfold PySem.passOn
        refine wpAny_bind (wpAny_field he hd h1 ?_)
        rw [if_neg (show ¬ ((Value.ref T == Value.none) = true) from by simp)]
        have fin : wpAny (model X.prog X.w) X.A (setFlight (.ref a) X.env.frame) (fun _ s4 => wpAny (model X.prog X.w) X.A (throw (.ref a) : Sem Flow) (SP X pins D) X.xe s4) X.xe { s' with heap := h3 } := by
          rw [hf]
          refine HandSPX.setFlight_upZ fl3 fun h4 hh4 up4 => wpAny_throw (tk _ _ ?_)
          exact ⟨a, B, sI, pins, σ', H', cls, d, rfl, J, nb, (up.trans up3).trans up4, .inr (.inr (by rw [hs]; exact hh4)), na, os, ag, w⟩
        first
          | exact wpAny_bind (wpAny_pure (wpAny_bind fin))
          | exact wpAny_bind fin
      | @cons x n i c ts b₀ suite np pos' hds2 l2 hc hi hln hsu r ih =>
        intro w
        obtain ⟨b, hb1, hyes, hno⟩ := w
        have hloc : Loc X.env.scope n := .inl hln
        refine wpAny_handleBy_cons (codeAny_handlers_test ?_) (by intro q; cases q)
        have LT : PySem.W.Looks (model X.prog X.w) h3 (typeOf (.ref a)) cls := fun A Q E s k q => wpAny_typeOf_ref (k _ _ he3) (by rw [hz3.1]; exact q)
        have LM := PySem.W.exm_one (M := model X.prog X.w) (J3.kIn) LT hb1
        have test : ∀ {Q : Value → Shared → Prop} {E : Value → Shared → Prop}, Q c { s' with heap := h3 } → wpAny (model X.prog X.w) (X.A.mark (some (.ref a))) (eval (.Name x np) X.env) Q E { s' with heap := h3 } := fun {Q E} q => by
          obtain ⟨hg, hdbg, hm | ⟨hm, hv, hnn⟩⟩ := hc
          · exact ld_glob (X := X.suite a ((a, oe3) :: (X.pn ++ pins))) S3 hg hm q hdbg
          · exact ld_blt (X := X.suite a ((a, oe3) :: (X.pn ++ pins))) S3 hg hm hv q hnn hdbg
        refine test (LM.here ?_)
        cases b with
        | true =>
          refine codeAny_handlers_suite_as ?_
          refine HandSPX.lands_againZ fl3 fun h4 fl4 up4 => ?_
          have J4 : Inv X pins σ' H' { s' with heap := h4 } := J.landed nb fl4.1 ((up.trans up3).trans up4) os ag
          obtain ⟨oe4, vs4, he4, hz4, hd4⟩ := fl4.there
          have S4 := J4.suite he4 hd4 na nL nF
          refine store_ok (X := X.suite a ((a, oe4) :: (X.pn ++ pins))) (v := .ref a) S4 hN hi hloc rfl (fun s5 S5 => ?_) (.inr hln)
          refine wpAny_mono ((hsu a oe4 cls d (X.pn ++ pins) hz4 ⟨_, hd4⟩).run [] s5 _ H' _ S5 (hyes rfl a na)) (fun f s6 hsp => ?_) (fun _ _ z => False.elim z)
          have end_ : ∀ {σ6 : L2.St} {H6 : Hp} {Q : Shared → Prop}, Inv (X.suite a ((a, oe4) :: (X.pn ++ pins))) [] σ6 H6 s6 → (∀ s7, Inv X pins (σ6.set i none) H6 s7 → Q s7) →
              wpAny (model X.prog X.w) X.A (do bindName X.env n .none; unbindBehindTheSuite X.env n pos') (fun _ s7 => Q s7) X.xe s6 := fun {σ6 H6 Q} S6 hq => gone_ok (S6.unsuite ok) hN hi hln hq
          cases f with
          | next =>
            obtain ⟨σ6, H6, S6, q6⟩ := hsp
            exact end_ S6 fun s7 J7 => ⟨_, _, J7, q6⟩
          | brk =>
            obtain ⟨σ6, H6, S6, q6⟩ := hsp
            exact end_ S6 fun s7 J7 => ⟨_, _, J7, q6⟩
          | cont =>
            obtain ⟨σ6, H6, S6, q6⟩ := hsp
            exact end_ S6 fun s7 J7 => ⟨_, _, J7, q6⟩
          | ret u =>
            obtain ⟨v6, σ6, H6, S6, r6, q6⟩ := hsp
            exact end_ S6 fun s7 J7 => ⟨_, _, _, J7, r6, q6⟩
        | false =>
          show wpAny _ X.A (handleBy (.ref a) X.env hds2) _ _ _
          exact ih (hno rfl)
    exact go hh w
  · cases f with
    | next =>
      obtain ⟨σ', H', J', q⟩ := hsp
      exact wpAny_execs_nil ⟨σ', H', J'.ofTry ok, q⟩
    | brk =>
      obtain ⟨σ', H', J', q⟩ := hsp
      exact ⟨σ', H', J'.ofTry ok, q⟩
    | cont =>
      obtain ⟨σ', H', J', q⟩ := hsp
      exact ⟨σ', H', J'.ofTry ok, q⟩
    | ret u =>
      obtain ⟨v, σ', H', J', r, q⟩ := hsp
      exact ⟨v, σ', H', J'.ofTry ok, r, q⟩
end
/-! ### a class ready to be raised -/
structure Exc (P : Program) (w : World) (K : PySem.W.Frag) (mg : Str → Option Value) (base : Heap) (x : Str) (C : Addr) (k : Nat) (sp : Sp) : Prop where
  g : mg x = some (.ref C)
  oex : OexC K C
  ini : ∃ (fI : Addr) (fd : FuncData) (ps : List Str), PySem.W.findIn K (.ref C) "__init__" = some (some (.ref fI)) ∧ PySem.W.typeIn K (.ref fI) = some (.type "function") ∧ FnOk P w K mg base CX0 k fI fd ps sp ∧ Binds K fd ps []
section
variable {X : Cx} {x : Str} {C : Addr} {k j : Nat} {sp : Sp} {e : Expr} {es : List Expr} {ta : TA} {p pos : Pos} {W : WX}
theorem pmk_exc (c : Exc X.prog X.w X.K X.mg X.base x C k sp) (hr : Room j X.A) (hk : k + 1 ≤ j) (hg : Gl X x) (ha : PA X (e :: es) ta)
    (hdb : (x == ("__debug__" : Str)) = false := by decide) (he : starEach (e :: es) X.env = (false, eval e X.env) :: starEach es X.env := by rfl) (hpl : (backTo pos (starEach es X.env)).any (·.1) = false := by rfl) :
    PMk X (.Call (.Name x p) (e :: es) [] pos) (tMkO C sp [] ta) := by
  obtain ⟨fI, fd, ps, iC, tI, F, b⟩ := c.ini
  exact pmk_oex c.oex iC tI F (hr.mono hk) b .nil pass0 hg c.g ha hdb he hpl
/-- raise C(..) -/
def tRaise (W : WX) (t : L2.St → Hp → XK → Prop) : TS := fun _ σ H => t σ H fun cls d H' => W cls d σ H'
theorem ps_raiseT {t : L2.St → Hp → XK → Prop} (hc : X.calm = true) (tk : Takes X W) (he : PMk X e t) : PS X (.Raise (some e) none pos) (tRaise W t) := ps_raise hc tk he
end
/-- what an own __init__ leaves: its dict with the fields fs of the arguments -/
def spIni (C : Addr) (n : Nat) (ok : List V → Prop) (fs : List V → List (Str × V)) : Sp := fun vs H Q _ => ∃ (a : Addr) (ws : List V), vs = .ref a :: ws ∧ ws.length = n ∧ ok ws ∧ H a = some (exo a C none) ∧
  ∀ d H', H d = none → (∀ b o, H b = some o → b ≠ a → H' b = some o) → H' a = some (exo a C (some d)) → H' d = some (exd d (fs ws)) → Q .non H'
theorem spIni_len {C : Addr} {n : Nat} {ok : List V → Prop} {fs : List V → List (Str × V)} {vs : List V} {H : Hp} {Q : VK} {E : XK} (h : spIni C n ok fs vs H Q E) : vs.length = n + 1 := by
  obtain ⟨a, ws, rfl, hn, _⟩ := h
  rw [List.length_cons, hn]
section
variable {C : Addr} {n : Nat} {ok : List V → Prop} {fs : List V → List (Str × V)} {vs : List V} {H : Hp} {Q : XK} {σ : L2.St} {ta : TA} {D : Ends} {W : WX}
theorem g_raise (h : tMkO C (spIni C n ok fs) [] ta σ H fun cls d H' => W cls d σ H') : tRaise W (tMkO C (spIni C n ok fs) [] ta) D σ H := h
theorem g_mkO (h : ta σ H fun vs H1 => vs.length ≤ 1000 ∧ ∀ a, H1 a = none → spIni C n ok fs (.ref a :: (vs ++ [])) (upd H1 a (exo a C none)) (fun v H2 => v = .non ∧ ∃ (d : Addr) (fs : List (Str × V)), H2 a = some (exo a C (some d)) ∧ H2 d = some (exd d fs) ∧ H1 d = none ∧ Q (.ref C) (some d) (upd (del H2 a) d (.xd fs))) (fun _ _ _ => False)) :
    tMkO C (spIni C n ok fs) [] ta σ H Q := h
theorem g_ini (hn : vs.length = n) (hz : n ≤ 1000) (hk : ok vs) (q : ∀ d H', H d = none → Same H H' → H' d = some (.xd (fs vs)) → Q (.ref C) (some d) H') :
    vs.length ≤ 1000 ∧ ∀ a, H a = none → spIni C n ok fs (.ref a :: (vs ++ [])) (upd H a (exo a C none)) (fun v H2 => v = .non ∧ ∃ (d : Addr) (fs : List (Str × V)), H2 a = some (exo a C (some d)) ∧ H2 d = some (exd d fs) ∧ H d = none ∧ Q (.ref C) (some d) (upd (del H2 a) d (.xd fs))) (fun _ _ _ => False) := by
  refine ⟨by omega, fun a na => ⟨a, vs ++ [], rfl, by rw [List.append_nil]; exact hn, by rw [List.append_nil]; exact hk, upd_same, fun d H' nd kp ea ed => ⟨rfl, d, _, ea, ed, ?_, ?_⟩⟩⟩
  · by_cases hd : d = a
    · rw [hd]; exact na
    · rw [upd_ne hd] at nd; exact nd
  · rw [List.append_nil] at ed ⊢
    have hda : d ≠ a := fun z => by rw [z, upd_same] at nd; cases nd
    have hnd : H d = none := by rw [upd_ne hda] at nd; exact nd
    refine q d _ hnd (fun b o hb => ?_) upd_same
    have hba : b ≠ a := ne_of_none hb na
    have hbd : b ≠ d := ne_of_none hb hnd
    rw [upd_ne hbd, del_ne hba]
    exact kp b o (by rw [upd_ne hba]; exact hb) hba
end
/-! ### an own __init__ as it stands behind the top -/
structure FunS (K : PySem.W.Frag) (name qual : Str) (st : Stmt) (f cc cda : Addr) (fd : FuncData) : Prop where
  ex : ∃ (oc : Value) (od : Option Addr) (kV doc pm : Value) (an : Option Addr) (ct : Value) (osl : Array (Option Value)), fd = fnX name qual (defArgs st) (defBody st) (defScope st) [("__class__", cc)] .none kV doc pm an (.ref cda) ct ∧
    K.lookup f = some (⟨oc, od, .func fd, osl⟩ : Obj) ∧ codeIn K (.ref cda) qual = true
theorem FunS.binds {K : PySem.W.Frag} {name qual : Str} {st : Stmt} {f cc cda : Addr} {fd : FuncData} {ps : List Str} (F : FunS K name qual st f cc cda fd)
    (h : ∀ (kV doc pm : Value) (an : Option Addr) (cdv ct : Value) (us : List Value), us.length = ps.length → bindArgs (fnX name qual (defArgs st) (defBody st) (defScope st) [("__class__", cc)] .none kV doc pm an cdv ct) ⟨us, []⟩ = pure (ps.zip us)) : Binds K fd ps [] := by
  obtain ⟨oc, od, kV, doc, pm, an, ct, osl, rfl, lk, hcd⟩ := F.ex
  exact .all (h kV doc pm an _ ct)
section
variable {P : Program} {w : World} {K : PySem.W.Frag} {mg : Str → Option Value} {base : Heap} {N ps : List Str} {f cc cda C : Addr} {k : Nat} {name qual : Str} {st : Stmt} {fd : FuncData} {e : Expr} {es : List Expr} {rest : List Stmt} {p0 p1 p2 p3 p4 : Pos} {ar : Arg}
  {n : Nat} {ok : List V → Prop} {fs : List V → List (Str × V)}
theorem FunS.okE (F : FunS K name qual st f cc cda fd) (S : NScope N ps ["__class__"] (defScope st)) (T : OexC K C) (U : SupK P K C cc cda)
    (hself : ((defArgs st).posonlyargs ++ (defArgs st).args).head? = some ar) (har : ar.arg = "self") (hps : ps.head? = some ("self" : Str)) (hks : (defScope st).names.lookup ("super" : Str) = some .globalImplicit) (hm : mg "super" = none)
    (hb : defBody st = .Expr (.Call (.Attribute (.Call (.Name "super" p0) [] [] p1) "__init__" p2) (e :: es) [] p3) p4 :: rest)
    (hfix : ∀ L : Addr, starEach (e :: es) (envF (supF name qual (defArgs st) (defBody st) (defScope st) cc cda) f L) = (false, eval e (envF (supF name qual (defArgs st) (defBody st) (defScope st) cc cda) f L)) :: starEach es (envF (supF name qual (defArgs st) (defBody st) (defScope st) cc cda) f L) ∧
      (backTo p3 (starEach es (envF (supF name qual (defArgs st) (defBody st) (defScope st) cc cda) f L))).any (·.1) = false ∧
      eval (.Call (.Attribute (.Call (.Name "super" p0) [] [] p1) "__init__" p2) (e :: es) [] p3) (envF (supF name qual (defArgs st) (defBody st) (defScope st) cc cda) f L) = (do
        let ov ← attributeBase (.Call (.Name "super" p0) [] [] p1) "__init__" (envF (supF name qual (defArgs st) (defBody st) (defScope st) cc cda) f L) (eval (.Call (.Name "super" p0) [] [] p1) (envF (supF name qual (defArgs st) (defBody st) (defScope st) cc cda) f L))
        standAt p2.atName
        let (fv, first) ← holding [ov] (getMethod ov "__init__" (pure false))
        callWith p3 fv first (backTo p3 (starEach (e :: es) (envF (supF name qual (defArgs st) (defBody st) (defScope st) cc cda) f L))) []) ∧
      interactive (envF (supF name qual (defArgs st) (defBody st) (defScope st) cc cda) f L) = false ∧
      swapsWith (.Call (.Attribute (.Call (.Name "super" p0) [] [] p1) "__init__" p2) (e :: es) [] p3) none p4.line (envF (supF name qual (defArgs st) (defBody st) (defScope st) cc cda) f L) = pure false)
    (hl : ps.length = n + 1)
    (hbody : ∀ (A : Around) (outer : List Env) (s : Shared) (H : Hp) (a : Addr) (ws : List V) (Q : VK) (E : XK), Room k (A.deeper (envF (supF name qual (defArgs st) (defBody st) (defScope st) cc cda) f s.heap.objs.size)) → ws.length = n → ok ws → H a = some (exo a C none) →
      ∃ ta t, PA (ncx CX0 P w K mg base N (supF name qual (defArgs st) (defBody st) (defScope st) cc cda) f A outer s H E) (e :: es) ta ∧ PSs (ncx CX0 P w K mg base N (supF name qual (defArgs st) (defBody st) (defScope st) cc cda) f A outer s H E) rest t ∧
        ((∀ d H', H d = none → (∀ b o, H b = some o → b ≠ a → H' b = some o) → H' a = some (exo a C (some d)) → H' d = some (exd d (fs ws)) → Q .non H') →
          ta (startF N (.ref a :: ws) [none]) H (fun us H1 => us.length ≤ 1000 ∧ H1 a = some (exo a C none) ∧ t { nx := fun _ H' => Q .non H', rt := Q } (startF N (.ref a :: ws) [none]) H1))) :
    FnOk P w K mg base CX0 (k + 1) f fd ps (spIni C n ok fs) := by
  obtain ⟨oc, od, kV, doc, pm, an, ct, osl, rfl, lk, hcd⟩ := F.ex
  refine fn_sup lk hcd S T U hself har hps hks hm hb hfix (fun vs H Q E h => by rw [spIni_len h, hl]) fun A outer s H vs Q E hr hsp => ?_
  obtain ⟨a, ws, rfl, hn, hk, ha, q⟩ := hsp
  obtain ⟨ta, t, h1, h2, h3⟩ := hbody A outer s H a ws Q E hr hn hk ha
  exact ⟨a, ws, ta, t, rfl, h1, h2, ha, h3 q⟩
end
/-! ### f-strings: only that the text is short -/
section
variable {σ : L2.St} {H : Hp} {Q : VK} {te : TE} {ts : List TE} {acc : Str} {k : Nat}
theorem g_fmt (h : te σ H fun x H1 => (∃ y : Str, x = .str y ∧ y.length ≤ sizeLine ∧ Q (.str y) H1) ∨ ∃ i : Int, x = .int i ∧ i.natAbs.log2 < 1920 ∧ Q (.str (toString i)) H1) : tFmt te σ H Q := h
theorem g_fmtS {y : Str} {R : Prop} {Q : Str → Prop} (hz : y.length ≤ 2000) (h : Q y) : (∃ y' : Str, V.str y = .str y' ∧ y'.length ≤ sizeLine ∧ Q y') ∨ R := .inl ⟨y, rfl, WL.sz_le (by omega), h⟩
theorem g_fmtI {i : Int} {R : Prop} {Q : Int → Prop} (hz : i.natAbs.log2 < 1920) (h : Q i) : R ∨ ∃ j : Int, V.int i = .int j ∧ j.natAbs.log2 < 1920 ∧ Q j := .inr ⟨i, rfl, hz, h⟩
def tJoin (ts : List TE) : TE := fun σ H Q => tJs ts Str.empty σ H fun out H1 => Q (.str out) H1
theorem kpe_joined {X : Cx} {v1 v2 : Expr} {rest : List Expr} {ts : List TE} {pos : Pos} (h : PJ X (v1 :: v2 :: rest) ts) : PE X (.JoinedStr (v1 :: v2 :: rest) pos) (tJoin ts) := pe_joined h
theorem g_join0 {ts : List TE} (h : ∀ acc : Str, acc.length ≤ 0 → tJs ts acc σ H fun out H1 => Q (.str out) H1) : tJoin ts σ H Q := h Str.empty (by decide)
theorem g_js {t : TE} {Q : Str → Hp → Prop} (h : t σ H fun x H1 => ∃ y : Str, x = .str y ∧ (acc ++ y).length ≤ sizeLine ∧ tJs ts (acc ++ y) σ H1 Q) : tJs (t :: ts) acc σ H Q := h
theorem g_jsS {y : Str} {Q : Str → Hp → Prop} (hz : y.length ≤ 2000) (ha : acc.length ≤ k) (hk : k ≤ 90000) (h : ∀ acc' : Str, acc'.length ≤ k + 2000 → tJs ts acc' σ H Q) :
    ∃ y' : Str, V.str y = .str y' ∧ (acc ++ y').length ≤ sizeLine ∧ tJs ts (acc ++ y') σ H Q := by
  have hl : (acc ++ y).length ≤ k + 2000 := by rw [WL.len_cat]; omega
  exact ⟨y, rfl, WL.sz_le (by omega), h _ hl⟩
theorem g_jsN {Q : Str → Hp → Prop} (h : Q acc H) : tJs [] acc σ H Q := h
theorem num_len {i : Int} (h : i.natAbs.log2 < 1920) : (Str.ofString (toString i)).length ≤ 2000 := Nat.le_trans (PyProof.Rows.int_text_len_1921 h) (by decide)
end
/-! ### a def that may raise, called -/
structure CalX (P : Program) (w : World) (K : PySem.W.Frag) (mg : Str → Option Value) (base : Heap) (k : Nat) (x : Str) (sp : Sp) : Prop where
  ex : ∃ (f : Addr) (fd : FuncData) (ps : List Str), FnOk P w K mg base (L2.CX P w) k f fd ps sp ∧ mg x = some (.ref f) ∧ PySem.W.keepIn K (.ref f) = true ∧ Binds K fd ps []
section
variable {X : Cx} {x : Str} {k j : Nat} {sp : Sp} {e : Expr} {es : List Expr} {ta : TA} {p pos : Pos} {W : WX}
theorem pe_cT (c : CalX X.prog X.w X.K X.mg X.base k x sp) (hr : Room j X.A) (hk : k ≤ j) (hg : Gl X x) (tk : Takes X W) (ha : PA X (e :: es) ta)
    (hdb : (x == ("__debug__" : Str)) = false := by decide) (he : starEach (e :: es) X.env = (false, eval e X.env) :: starEach es X.env := by rfl) (hpl : (backTo pos (starEach es X.env)).any (·.1) = false := by rfl) :
    PE X (.Call (.Name x p) (e :: es) [] pos) (tCallS sp (WE W) ta) := by
  obtain ⟨f, fd, ps, F, hm, kp, b⟩ := c.ex
  exact pe_callS F (hr.mono hk) hg hm kp b (fun σ => passAt tk σ) ha hdb he hpl
end
section
variable {X : Cx} {K : PySem.W.Frag} {a : Addr} {oe : Obj} {cls : Value} {d : Option Addr} {pn : List (Addr × Obj)} {e : Expr} {te : TE} {pos : Pos} {n : Str} {σ : L2.St} {H : Hp} {Q : VK} {sp : Sp} {E : L2.St → XK} {ta : TA}
/-- err.f of a caught error: its class told by the reading -/
def tXg (K : PySem.W.Frag) (a : Addr) (cls : Value) (d : Option Addr) (f : Str) (te : TE) : TE := fun σ H Q => te σ H fun x H1 => x = .ref a ∧ ∃ (C dd : Addr) (fs : List (Str × V)) (v : V), cls = .ref C ∧ XfC K C ∧ PySem.W.findIn K (.ref C) f = some none ∧ d = some dd ∧ H1 dd = some (.xd fs) ∧ fs.lookup f = some v ∧ Q v H1
theorem pe_xg (hz : Zc cls d oe) (hf : ∃ vs, oe.data = .fields vs) (he : PE (X.suite a ((a, oe) :: pn)) e te) (hK : X.K = K := by rfl) (hb : attributeBase e n X.env (eval e X.env) = eval e X.env := by rfl) :
    PE (X.suite a ((a, oe) :: pn)) (.Attribute e n pos) (tXg K a cls d n te) := by
  subst hK
  refine ⟨fun pins s σ H Q I h => ?_⟩
  refine attr_of hb (thn (he.run pins s σ H _ I h) fun u s1 hh => ?_)
  obtain ⟨x, H1, I1, rx, ex, C, dd, fs, v, ec, T, hno, ed, ea, l, q⟩ := hh
  subst ex
  obtain rfl : u = Value.ref a := rx
  subst ec
  subst ed
  obtain ⟨ha, _⟩ := I1.pin (a, oe) (List.mem_append_left _ List.mem_cons_self)
  obtain ⟨vs, hd⟩ := hf
  have hx : ObjOk X.prog X.w H1 s1.heap dd (.xd fs) := I1.hok dd _ ea
  obtain ⟨mA, hns, hr⟩ := hx
  obtain ⟨od, ho, hl⟩ := lookIn_ns hns
  obtain ⟨u, hu, ru⟩ := RelO.some_of (v := v) (o := mA n) (by rw [← l]; exact hr n)
  have J : PySem.W.InstAt s1.heap a oe C (some od) := ⟨ha, hz.1, by unfold PySem.W.notCls; rw [hd] <;> rfl, by rw [hz.2]; exact ho⟩
  exact HandSPX.exc_get I1.kIn J T.ga T.gg T.exC (PySem.W.findObj_own T.hdC hno rfl (by rw [hl, hu])) (handed_of ru) ⟨v, H1, I1.tok _, ru, q⟩
theorem g_callS (h : ta σ H fun vs H1 => sp vs H1 Q (E σ)) : tCallS sp E ta σ H Q := h
theorem g_xg {C dd : Addr} {fs : List (Str × V)} {v : V} {R : V → Prop} (hx : XfC K C) (hn : PySem.W.findIn K (.ref C) n = some none) (hd : H dd = some (.xd fs)) (hl : fs.lookup n = some v) (h : R v) :
    V.ref a = .ref a ∧ ∃ (C' dd' : Addr) (fs : List (Str × V)) (v : V), Value.ref C = .ref C' ∧ XfC K C' ∧ PySem.W.findIn K (.ref C') n = some none ∧ some dd = some dd' ∧ H dd' = some (.xd fs) ∧ fs.lookup n = some v ∧ R v := ⟨rfl, C, dd, fs, v, rfl, hx, hn, rfl, hd, hl, h⟩
theorem g_isD {D dd : Addr} {fs : List (Str × V)} {c : V} {cv : Value} {b : Bool} (hC : L2.ExcC K D) (hd : H dd = some (.xd fs)) (hcv : ∀ u, RelV c u → u = cv) (e : PySem.W.kitOne K (.ref D) cv = some b) (q : Q (.bl b) H) : rIsD K a (.ref D) (some dd) [.ref a, c] H Q :=
  ⟨D, dd, fs, c, cv, b, rfl, rfl, hC, hd, rfl, hcv, e, q⟩
theorem rel_ref {C : Addr} : ∀ u, RelV (.ref C) u → u = Value.ref C := fun _ h => h
theorem rel_ty {T : String} : ∀ u, RelV (.ty T) u → u = Value.type T := fun _ h => h
end
section
variable {K : PySem.W.Frag} {A C : Addr} {T : String} {v : Bool}
theorem kit_refT (h1 : PySem.W.isClsIn K C = true) (h2 : PySem.W.typeIn K (.ref C) = some (.type "type")) (h : PySem.W.subIn K (.ref A) (.ref C) = some true) : PySem.W.kitOne K (.ref A) (.ref C) = some true := by
  unfold PySem.W.kitOne
  by_cases e : (Value.ref A == Value.ref C) = true
  · rw [if_pos e]
  · rw [if_neg e]
    unfold PySem.W.kitCls
    have h1' : (PySem.W.clsIn K C).isSome = true := h1
    simp only [h1', h2, beq_self_eq_true, Bool.and_self, if_true]
    exact h
theorem kit_refF (h1 : PySem.W.isClsIn K C = true) (h2 : PySem.W.typeIn K (.ref C) = some (.type "type")) (ne : (Value.ref A == Value.ref C) = false) (h : PySem.W.subIn K (.ref A) (.ref C) = some false) : PySem.W.kitOne K (.ref A) (.ref C) = some false := by
  unfold PySem.W.kitOne
  rw [ne, if_neg Bool.false_ne_true]
  unfold PySem.W.kitCls
  have h1' : (PySem.W.clsIn K C).isSome = true := h1
  simp only [h1', h2, beq_self_eq_true, Bool.and_self, if_true]
  exact h
theorem kit_ty (h1 : PySem.W.kitMeta T = true) (h : PySem.W.subIn K (.ref A) (.type T) = some v) : PySem.W.kitOne K (.ref A) (.type T) = some v := by
  unfold PySem.W.kitOne
  rw [show (Value.ref A == Value.type T) = false from rfl, if_neg Bool.false_ne_true]
  unfold PySem.W.kitCls
  simp only [h1, if_true]
  exact h
end
section
variable {X : Cx} {body : List Stmt} {h₀ : ExceptHandler} {hds : List ExceptHandler} {l : List ACl} {pos : Pos} {tb : WX → TS} {Wout : WX} {K : PySem.W.Frag} {D : Ends} {σ : L2.St} {H : Hp} {f : Str} {to te : TE}
def tTry (K : PySem.W.Frag) (Wout : WX) (l : List ACl) (tb : WX → TS) : TS := fun D σ H => tb (wManyAs K Wout D l) D σ H
theorem kps_try (K : PySem.W.Frag) (hs : X.stack = X.env :: X.outer) (hf : X.env.frame = some X.env.locals) (hN : X.N.Nodup) (tk : Takes X Wout)
    (hb : ∀ (W : WX) (pn : List (Addr × Obj)) (xe : Value → Shared → Prop), Takes (X.tr pn xe) W → PassesOwn (model X.prog X.w) X.A X.env xe → PSs (X.tr pn xe) body (tb W))
    (hh : HdsAs X (h₀ :: hds) l) (e : X.K = K := by rfl) : PS X (.Try body (h₀ :: hds) [] [] pos) (tTry K Wout l tb) := by subst e; exact ps_try_manyAs hs hf hN tk hb hh
theorem g_try (h : tb (wManyAs K Wout D l) D σ H) : tTry K Wout l tb D σ H := h
theorem g_ost (h : te σ H fun y H1 => to σ H1 fun x H2 => ∃ a C : Addr, x = .ref a ∧ OexC K C ∧ PySem.W.findIn K (.ref C) f = some none ∧
  ((H2 a = some (exo a C none) ∧ ∀ dx, H2 dx = none → dx ≠ a → D.nx σ (upd (upd H2 dx (exd dx [(f, y)])) a (exo a C (some dx)))) ∨
    ∃ (dx : Addr) (fs : List (Str × V)), H2 a = some (exo a C (some dx)) ∧ H2 dx = some (exd dx fs) ∧ fs.length ≤ 900 ∧ D.nx σ (upd H2 dx (exd dx ((f, y) :: fs))))) : tOst K f to te D σ H := h
end
section
variable {K : PySem.W.Frag} {a : Addr} {cls : Value} {d : Option Addr} {te : TE} {n : Str} {σ : L2.St} {H : Hp} {Q : VK}
theorem g_xgo (h : te σ H fun x H1 => x = .ref a ∧ ∃ (C dd : Addr) (fs : List (Str × V)) (v : V), cls = .ref C ∧ XfC K C ∧ PySem.W.findIn K (.ref C) n = some none ∧ d = some dd ∧ H1 dd = some (.xd fs) ∧ fs.lookup n = some v ∧ Q v H1) : tXg K a cls d n te σ H Q := h
end
theorem fn_false {P : Program} {w : World} {K : PySem.W.Frag} {mg : Str → Option Value} {base : Heap} {CX : CXT} {k : Nat} {f : Addr} {fd : FuncData} {ps : List Str} {sp : Sp} (h : ∀ vs H Q E, ¬ sp vs H Q E) : FnOk P w K mg base CX k f fd ps sp :=
  ⟨fun vs H Q E q => absurd q (h vs H Q E), fun A outer s H args us vs Q E _ _ _ _ q => absurd q (h vs H Q E)⟩
end WExc
set_option Elab.async false
set_option linter.all false
set_option maxRecDepth 100000
set_option maxHeartbeats 4000000
namespace K01
open PySem PySem.Spec PyProof.Rows L2 WL
local macro_rules | `(tactic| walk_at "lk") => `(tactic| first
  | exact upd_same
  | assumption
  | (rw [upd_ne (by assumption)]; first | exact upd_same | assumption | (rw [upd_ne (by assumption)]; first | exact upd_same | assumption | (rw [upd_ne (by assumption)]; first | exact upd_same | assumption))))
local macro_rules | `(tactic| walk_at "go1") => `(tactic| first
  | (with_reducible refine g_seq ?_)
  | (with_reducible refine g_asg ?_)
  | (with_reducible refine g_name ?_)
  | (with_reducible refine g_sub ?_)
  | ((with_reducible refine' g_var ?gv ?_); (case gv => exact rfl))
  | (with_reducible refine g_c ?_)
  | (with_reducible refine g_op ?_)
  | (with_reducible refine g_un ?_)
  | (with_reducible refine g_I0 ?_)
  | ((with_reducible refine g_I ?gc ?_); (case gc => first | assumption | decide | (show (0 : Int) < _; omega) | exact Or.inr ⟨by omega, by omega⟩ | exact Or.inl ⟨by omega, by omega⟩ | exact ⟨by omega, by omega⟩))
  | (with_reducible refine iteT ?_)
  | (with_reducible refine iteF ?_)
  | (with_reducible refine iteNT ?_)
  | (with_reducible refine iteNF ?_)
  | (with_reducible refine g_andV ?_)
  | (with_reducible refine g_orV ?_)
  | ((with_reducible refine' g_lenS (by assumption) ?_))
  | ((with_reducible refine' g_lenS (SqL.of (by walk_at "lk")) ?_))
  | (with_reducible refine g_U ?_)
  | ((with_reducible refine g_eq ?gs ?_); (case gs => rfl))
  | ((with_reducible refine g_ne ?gs ?_); (case gs => rfl))
  | (with_reducible refine g_drop ?_)
  | (with_reducible refine g_ret ?_)
  | (with_reducible refine g_next ?_)
  | (with_reducible refine g_ifS ?_)
  | (with_reducible refine g_ifE ?_)
  | (with_reducible refine g_test ?_)
  | (with_reducible refine g_tb ?_)
  | (with_reducible refine g_bl ?_)
  | (with_reducible refine g_not ?_)
  | (with_reducible refine g_and ?_)
  | (with_reducible refine g_or ?_)
  | (with_reducible refine g_nil ?_)
  | (with_reducible refine g_cons ?_)
  | (with_reducible refine g_cb ?_)
  | (with_reducible refine g_call ?_)
  | (with_reducible refine g_int ?_)
  | (with_reducible refine g_two ?_)
  | ((with_reducible refine g_lenStr ?gz ?_); (case gz => first | assumption | exact sz_le (by omega)))
  | (with_reducible refine g_m1 ?_)
  | (with_reducible refine g_isS ?_)
  | (with_reducible refine g_nn ?_)
  | (with_reducible refine g_yes ?_)
  | (with_reducible refine g_for ?_)
  | (with_reducible refine g_ckw ?_)
  | (with_reducible refine g_chain ?_)
  | (with_reducible refine g_gcons ?_)
  | (with_reducible refine g_gnil ?_)
  | (with_reducible refine g_notV ?_)
  | (with_reducible refine g_iZip ?_)
  | (with_reducible refine g_lc ?_)
  | (with_reducible refine g_lc2 ?_)
  | (with_reducible refine g_iList ?_)
  | (with_reducible refine g_iRng1 ?_)
  | (with_reducible refine g_iRng2 ?_)
  | (with_reducible refine g_sl ?_)
  | (with_reducible refine g_noPart ?_)
  | (with_reducible refine g_part ?_)
  | (with_reducible refine g_ex1 ?_)
  | (with_reducible refine g_bm ?_)
  | ((with_reducible refine' g_tyL (by walk_at "lk") ?_))
  | ((with_reducible refine' g_aug ?gv ?_); (case gv => exact rfl))
  | (with_reducible refine g_ipI ?_)
  | (with_reducible refine g_turn ?_)
  | (with_reducible refine g_brk ?_)
  | (with_reducible refine g_cont ?_)
  | (with_reducible refine g_sign ?_)
  | (with_reducible refine g_lst ?_)
  | (with_reducible refine g_tup ?_)
  | ((with_reducible refine' g_ixL (by assumption) ?ga ?_); (case ga => assumption))
  | ((with_reducible refine' g_ixL (SqL.of (by walk_at "lk")) ?ga ?_); (case ga => first | exact rfl | assumption))
  | ((with_reducible refine' g_ixT (SqT.of (by walk_at "lk")) ?ga ?_); (case ga => first | exact rfl | assumption))
  | ((with_reducible refine' g_lenT (SqT.of (by walk_at "lk")) ?_))
  | ((with_reducible refine' g_isiS (b := true) ?ga ?_); (case ga => decide +kernel))
  | ((with_reducible refine' g_isiS (b := false) ?ga ?_); (case ga => decide +kernel))
  | ((with_reducible refine' g_isiI (b := true) ?ga ?_); (case ga => decide +kernel))
  | ((with_reducible refine' g_isiI (b := false) ?ga ?_); (case ga => decide +kernel))
  | ((with_reducible refine' g_setL2 ?ga ?gb ?_); (case ga => exact rfl); (case gb => exact rfl))
  | ((with_reducible refine' g_setL (by walk_at "lk") ?ga ?gb ?_); (case ga => exact rfl); (case gb => exact rfl)))
local macro_rules | `(tactic| walk_at "go") => `(tactic| ((repeat walk_at "go1"); try dsimp only [List.set, List.cons_append, List.nil_append]))
def topS (i : Nat) : Stmt := PySem.Challenge.pw_gatesworn_k01_tokens_refused.main.body.getD i (.Pass ⟨0, 0, 0, 0⟩)
abbrev s__written : Stmt := topS 2
theorem sc__written : FnScope ["number"] ["number"] (defScope s__written) := ⟨rfl, rfl, rfl, by decide +kernel, rfl, by decide +kernel, by decide +kernel⟩
abbrev s_BadText___init__ : Stmt := inClass (topS 4) 0
theorem nsc_BadText : NdefX.NScope ["self", "line", "column", "__class__"] ["self", "line", "column"] ["__class__"] (defScope s_BadText___init__) := NdefX.nscope_by (by decide +kernel)
def ok_BadText (ws : List V) : Prop := ∃ v0 : Int, ∃ v1 : Int, ws = [V.int v0, V.int v1] ∧ v1.natAbs.log2 < 1920
def fs_BadText (ws : List V) : List (Str × V) := match ws with
  | [v0, v1] => [("column", v1), ("line", v0)]
  | _ => []
abbrev s_TooLarge___init__ : Stmt := inClass (topS 5) 0
theorem nsc_TooLarge : NdefX.NScope ["self", "what", "limit", "__class__"] ["self", "what", "limit"] ["__class__"] (defScope s_TooLarge___init__) := NdefX.nscope_by (by decide +kernel)
def ok_TooLarge (ws : List V) : Prop := ∃ v0 : Str, ∃ v1 : Int, ws = [V.str v0, V.int v1] ∧ v0.length ≤ 2000 ∧ v1.natAbs.log2 < 1920
def fs_TooLarge (ws : List V) : List (Str × V) := match ws with
  | [v0, v1] => [("limit", v1), ("what", v0)]
  | _ => []
abbrev s_tokens : Stmt := topS 17
theorem sc_tokens : FnScope ["text", "line", "found", "at", "end", "word", "kind"] ["text", "line"] (defScope s_tokens) := ⟨rfl, rfl, rfl, by decide +kernel, rfl, by decide +kernel, by decide +kernel⟩
abbrev s__end_of_token : Stmt := topS 18
theorem sc__end_of_token : FnScope ["text", "at"] ["text", "at"] (defScope s__end_of_token) := ⟨rfl, rfl, rfl, by decide +kernel, rfl, by decide +kernel, by decide +kernel⟩
abbrev s__end_of_run : Stmt := topS 19
theorem sc__end_of_run : FnScope ["text", "at", "signs"] ["text", "at", "signs"] (defScope s__end_of_run) := ⟨rfl, rfl, rfl, by decide +kernel, rfl, by decide +kernel, by decide +kernel⟩
abbrev s__kind_of : Stmt := topS 20
theorem sc__kind_of : FnScope ["word"] ["word"] (defScope s__kind_of) := ⟨rfl, rfl, rfl, by decide +kernel, rfl, by decide +kernel, by decide +kernel⟩
abbrev s__is_number : Stmt := topS 21
theorem sc__is_number : FnScope ["digits"] ["digits"] (defScope s__is_number) := ⟨rfl, rfl, rfl, by decide +kernel, rfl, by decide +kernel, by decide +kernel⟩
abbrev s__law_bag : Stmt := topS 23
theorem sc__law_bag : FnScope ["script", "cell"] ["script"] (defScope s__law_bag) := ⟨rfl, rfl, rfl, by decide +kernel, rfl, by decide +kernel, by decide +kernel⟩
abbrev s__law_draw : Stmt := topS 24
theorem sc__law_draw : FnScope ["bag", "size", "cell", "got", "first", "second"] ["bag", "size"] (defScope s__law_draw) := ⟨rfl, rfl, rfl, by decide +kernel, rfl, by decide +kernel, by decide +kernel⟩
abbrev s__law_keywords : Stmt := topS 25
theorem sc__law_keywords : FnScope ["words"] [] (defScope s__law_keywords) := ⟨rfl, rfl, rfl, by decide +kernel, rfl, by decide +kernel, by decide +kernel⟩
abbrev s__law_symbols : Stmt := topS 26
theorem sc__law_symbols : FnScope [] [] (defScope s__law_symbols) := ⟨rfl, rfl, rfl, by decide +kernel, rfl, by decide +kernel, by decide +kernel⟩
abbrev s__law_signs : Stmt := topS 27
theorem sc__law_signs : FnScope ["signs"] [] (defScope s__law_signs) := ⟨rfl, rfl, rfl, by decide +kernel, rfl, by decide +kernel, by decide +kernel⟩
abbrev s__law_chars : Stmt := topS 28
theorem sc__law_chars : FnScope ["bag", "signs", "many", "text", "k"] ["bag", "signs", "many"] (defScope s__law_chars) := ⟨rfl, rfl, rfl, by decide +kernel, rfl, by decide +kernel, by decide +kernel⟩
abbrev s__law_odd : Stmt := topS 29
theorem sc__law_odd : FnScope ["bag", "way", "word"] ["bag"] (defScope s__law_odd) := ⟨rfl, rfl, rfl, by decide +kernel, rfl, by decide +kernel, by decide +kernel⟩
abbrev s__law_good : Stmt := topS 30
theorem sc__law_good : FnScope ["bag", "short", "way", "word"] ["bag", "short"] (defScope s__law_good) := ⟨rfl, rfl, rfl, by decide +kernel, rfl, by decide +kernel, by decide +kernel⟩
abbrev s__law_pieces : Stmt := topS 31
theorem sc__law_pieces : FnScope ["bag", "many", "odd", "short", "first", "second", "text", "k", "word", "gap"] ["bag", "many", "odd", "short"] (defScope s__law_pieces) := ⟨rfl, rfl, rfl, by decide +kernel, rfl, by decide +kernel, by decide +kernel⟩
abbrev s__law_line : Stmt := topS 32
theorem sc__law_line : FnScope ["bag", "way", "odd"] ["bag"] (defScope s__law_line) := ⟨rfl, rfl, rfl, by decide +kernel, rfl, by decide +kernel, by decide +kernel⟩
abbrev s__law_end : Stmt := topS 33
theorem sc__law_end : FnScope ["text", "at", "signs", "end", "k"] ["text", "at", "signs"] (defScope s__law_end) := ⟨rfl, rfl, rfl, by decide +kernel, rfl, by decide +kernel, by decide +kernel⟩
abbrev s__law_number_is_good : Stmt := topS 34
theorem sc__law_number_is_good : FnScope ["word"] ["word"] (defScope s__law_number_is_good) := ⟨rfl, rfl, rfl, by decide +kernel, rfl, by decide +kernel, by decide +kernel⟩
abbrev s__law_scan : Stmt := topS 35
theorem sc__law_scan : FnScope ["text", "found", "at", "k", "sign", "end", "kind"] ["text"] (defScope s__law_scan) := ⟨rfl, rfl, rfl, by decide +kernel, rfl, by decide +kernel, by decide +kernel⟩
abbrev s__law_due : Stmt := topS 36
theorem sc__law_due : FnScope ["text", "line", "column", "found"] ["text", "line"] (defScope s__law_due) := ⟨rfl, rfl, rfl, by decide +kernel, rfl, by decide +kernel, by decide +kernel⟩
abbrev s__law_answer : Stmt := topS 37
theorem sc__law_answer : FnScope ["text", "line", "told", "e"] ["text", "line"] (defScope s__law_answer) := ⟨rfl, rfl, rfl, by decide +kernel, rfl, by decide +kernel, by decide +kernel⟩
abbrev s__law_alike : Stmt := topS 38
theorem sc__law_alike : FnScope ["actual", "due", "k"] ["actual", "due"] (defScope s__law_alike) := ⟨rfl, rfl, rfl, by decide +kernel, rfl, by decide +kernel, by decide +kernel⟩
abbrev s_law : Stmt := topS 39
theorem sc_law : FnScope ["script", "bag", "line", "text"] ["script"] (defScope s_law) := ⟨rfl, rfl, rfl, by decide +kernel, rfl, by decide +kernel, by decide +kernel⟩
structure Txt (K : PySem.W.Frag) (mg : Str → Option Value) (dA : Nat → Addr) : Prop where
  b_ValueError : mg "ValueError" = none
  b_bool : mg "bool" = none
  b_int : mg "int" = none
  b_isinstance : mg "isinstance" = none
  b_len : mg "len" = none
  b_list : mg "list" = none
  b_range : mg "range" = none
  b_str : mg "str" = none
  b_tuple : mg "tuple" = none
  g_LARGE : ∃ u, mg "LARGE" = some u ∧ RelV (V.int (1000000000000000000)) u
  g_KEYWORDS : ∃ u, mg "KEYWORDS" = some u ∧ RelV (V.ref (dA 0)) u
  t_KEYWORDS : ∀ H : Hp, SqT K H (dA 0) [V.str (Str.ofString "module"), V.str (Str.ofString "end"), V.str (Str.ofString "in"), V.str (Str.ofString "out"), V.str (Str.ofString "wire"), V.str (Str.ofString "reg"), V.str (Str.ofString "mem"), V.str (Str.ofString "use"), V.str (Str.ofString "as"), V.str (Str.ofString "each"), V.str (Str.ofString "from"), V.str (Str.ofString "to"), V.str (Str.ofString "when"), V.str (Str.ofString "always"), V.str (Str.ofString "if"), V.str (Str.ofString "then"), V.str (Str.ofString "else"), V.str (Str.ofString "within"), V.str (Str.ofString "all"), V.str (Str.ofString "any"), V.str (Str.ofString "odd"), V.str (Str.ofString "promise")]
  g_LETTERS : ∃ u, mg "LETTERS" = some u ∧ RelV (V.str (Str.ofString "abcdefghijklmnopqrstuvwxyz")) u
  g_DIGITS : ∃ u, mg "DIGITS" = some u ∧ RelV (V.str (Str.ofString "0123456789")) u
  g_WORD_SIGNS : ∃ u, mg "WORD_SIGNS" = some u ∧ RelV (V.str (Str.ofString "abcdefghijklmnopqrstuvwxyz0123456789_")) u
  g_DOUBLE_SYMBOLS : ∃ u, mg "DOUBLE_SYMBOLS" = some u ∧ RelV (V.ref (dA 1)) u
  t_DOUBLE_SYMBOLS : ∀ H : Hp, SqT K H (dA 1) [V.str (Str.ofString "<="), V.str (Str.ofString "=="), V.str (Str.ofString "!="), V.str (Str.ofString ">="), V.str (Str.ofString "<<"), V.str (Str.ofString ">>")]
  g_SINGLE_SYMBOLS : ∃ u, mg "SINGLE_SYMBOLS" = some u ∧ RelV (V.str (Str.ofString "()[]{},:.=<+-*&|^~#@")) u
  g_MOST_TOKENS : ∃ u, mg "MOST_TOKENS" = some u ∧ RelV (V.int (40)) u
  g_LONGEST_NAME : ∃ u, mg "LONGEST_NAME" = some u ∧ RelV (V.int (16)) u
  g_LONGEST_NUMBER : ∃ u, mg "LONGEST_NUMBER" = some u ∧ RelV (V.int (5)) u
  g_GREATEST_NUMBER : ∃ u, mg "GREATEST_NUMBER" = some u ∧ RelV (V.int (65535)) u
  gx_BadText : mg "BadText" = some (.ref (dA 100))
  gc_BadText : ∃ u, mg "BadText" = some u ∧ RelV (V.ref (dA 100)) u
  gx_TooLarge : mg "TooLarge" = some (.ref (dA 101))
  gc_TooLarge : ∃ u, mg "TooLarge" = some u ∧ RelV (V.ref (dA 101)) u
  gx_GatesError : mg "GatesError" = some (.ref (dA 102))
  gc_GatesError : ∃ u, mg "GatesError" = some u ∧ RelV (V.ref (dA 102)) u
  xf_BadText : XfC K (dA 100)
  xe_BadText : L2.ExcC K (dA 100)
  xo_BadText : OexC K (dA 100)
  xn_BadText_line : PySem.W.findIn K (.ref (dA 100)) "line" = some none
  xn_BadText_column : PySem.W.findIn K (.ref (dA 100)) "column" = some none
  xf_TooLarge : XfC K (dA 101)
  xe_TooLarge : L2.ExcC K (dA 101)
  xo_TooLarge : OexC K (dA 101)
  xn_TooLarge_what : PySem.W.findIn K (.ref (dA 101)) "what" = some none
  xn_TooLarge_limit : PySem.W.findIn K (.ref (dA 101)) "limit" = some none
  ki_BadText_ValueError : PySem.W.kitOne K (.ref (dA 100)) (.type "ValueError") = some true
  ki_BadText_GatesError : PySem.W.kitOne K (.ref (dA 100)) (.ref (dA 102)) = some true
  ki_BadText_TooLarge : PySem.W.kitOne K (.ref (dA 100)) (.ref (dA 101)) = some false
  ki_TooLarge_ValueError : PySem.W.kitOne K (.ref (dA 101)) (.type "ValueError") = some true
  ki_TooLarge_GatesError : PySem.W.kitOne K (.ref (dA 101)) (.ref (dA 102)) = some true
  ki_TooLarge_BadText : PySem.W.kitOne K (.ref (dA 101)) (.ref (dA 100)) = some false
  em_BadText_BadText : PySem.W.exmOne K (.ref (dA 100)) (.ref (dA 100)) = some true
  em_TooLarge_BadText : PySem.W.exmOne K (.ref (dA 101)) (.ref (dA 100)) = some false
  em_TooLarge_TooLarge : PySem.W.exmOne K (.ref (dA 101)) (.ref (dA 101)) = some true

def spWritten : Sp := fun vs H Q _ => ∃ i : Int, vs = [.int i] ∧ ∀ z : Str, z.length ≤ 2000 → Q (.str z) H
section
variable {P : Program} {w : World} {K : PySem.W.Frag} {mg : Str → Option Value} {base : Heap} {dA : Nat → Addr}
theorem ok_BadText___init__ (T : Txt K mg dA) (c__written : C8.Cal P w K mg base 1 "_written" spWritten []) {f cc cda : Addr} {fd : FuncData} (F : WExc.FunS K "__init__" "BadText.__init__" s_BadText___init__ f cc cda fd) (U : WExc.SupK P K (dA 100) cc cda) (hm : mg "super" = none) : FnOk P w K mg base CX0 2 f fd ["self", "line", "column"] (WExc.spIni (dA 100) 2 ok_BadText fs_BadText) := by
  refine F.okE nsc_BadText T.xo_BadText U rfl rfl rfl rfl hm rfl (fun L => ⟨rfl, rfl, rfl, rfl, rfl⟩) rfl fun A outer s H a ws Q E hr hn hk ha => ?_
  obtain ⟨v0, v1, rfl, h1⟩ := hk
  refine ⟨_, _, (pa_cons (WExc.kpe_joined (PJ.cons pe_str (PJ.cons (pe_fmt (C8.pe_c c__written hr (by decide) (by rfl) (pa_cons (pv 1) pa_nil))) (PJ.cons pe_str (PJ.cons (pe_fmt (pv 2)) (PJ.cons pe_str PJ.nil)))))) pa_nil), (pss_cons (ps_ost (pv 0) (pv 1)) (pss_one (ps_ost (pv 0) (pv 2)))), fun q => ?_⟩
  rw [show (NdefX.startF ["self", "line", "column", "__class__"] (V.ref a :: [V.int v0, V.int v1]) [none] : L2.St) = [some (.ref a), some (.int v0), some (.int v1), none] from rfl]
  refine g_cons ?_
  refine WExc.g_join0 fun acc hacc => ?_
  refine WExc.g_js ?_
  refine g_c ?_
  refine WExc.g_jsS (by decide +kernel) hacc (by decide) fun acc hacc => ?_
  refine WExc.g_js ?_
  refine WExc.g_fmt ?_
  refine g_call ?_; refine g_cons ?_; refine g_var rfl ?_; refine g_nil ?_
  refine ⟨_, rfl, fun z hz => ?_⟩
  refine WExc.g_fmtS hz ?_
  refine WExc.g_jsS hz hacc (by decide) fun acc hacc => ?_
  refine WExc.g_js ?_
  refine g_c ?_
  refine WExc.g_jsS (by decide +kernel) hacc (by decide) fun acc hacc => ?_
  refine WExc.g_js ?_
  refine WExc.g_fmt ?_
  refine g_var rfl ?_
  refine WExc.g_fmtI h1 ?_
  refine WExc.g_jsS (WExc.num_len h1) hacc (by decide) fun acc hacc => ?_
  refine WExc.g_js ?_
  refine g_c ?_
  refine WExc.g_jsS (by decide +kernel) hacc (by decide) fun acc hacc => ?_
  refine WExc.g_jsN ?_
  refine g_nil ?_
  refine ⟨by show 1 ≤ 1000; decide, ha, ?_⟩
  refine g_seq ?_
  refine WExc.g_ost ?_; refine g_var rfl ?_; refine g_var rfl ?_
  refine ⟨a, _, rfl, T.xo_BadText, T.xn_BadText_line, .inl ⟨ha, fun dx ndx hda => ?_⟩⟩
  dsimp only
  refine WExc.g_ost ?_; refine g_var rfl ?_; refine g_var rfl ?_
  refine ⟨a, _, rfl, T.xo_BadText, T.xn_BadText_column, .inr ⟨dx, _, by first | exact upd_same | (rw [upd_ne (Ne.symm hda)]; exact upd_same), by first | exact upd_same | (rw [upd_ne hda]; exact upd_same), by simp, ?_⟩⟩
  refine q dx _ ndx (fun b o hb hne => ?_) (by first | exact upd_same | (rw [upd_ne (Ne.symm hda)]; exact upd_same)) (by first | exact upd_same | (rw [upd_ne hda]; exact upd_same))
  have hbd : b ≠ dx := ne_of_none hb ndx
  first | (rw [upd_ne hne, upd_ne hbd]; exact hb) | (rw [upd_ne hbd, upd_ne hne, upd_ne hbd]; exact hb) | (rw [upd_ne hbd, upd_ne hbd, upd_ne hne, upd_ne hbd]; exact hb)
theorem ok_TooLarge___init__ (T : Txt K mg dA)  {f cc cda : Addr} {fd : FuncData} (F : WExc.FunS K "__init__" "TooLarge.__init__" s_TooLarge___init__ f cc cda fd) (U : WExc.SupK P K (dA 101) cc cda) (hm : mg "super" = none) : FnOk P w K mg base CX0 2 f fd ["self", "what", "limit"] (WExc.spIni (dA 101) 2 ok_TooLarge fs_TooLarge) := by
  refine F.okE nsc_TooLarge T.xo_TooLarge U rfl rfl rfl rfl hm rfl (fun L => ⟨rfl, rfl, rfl, rfl, rfl⟩) rfl fun A outer s H a ws Q E hr hn hk ha => ?_
  obtain ⟨v0, v1, rfl, h0, h1⟩ := hk
  refine ⟨_, _, (pa_cons (WExc.kpe_joined (PJ.cons (pe_fmt (pv 1)) (PJ.cons pe_str (PJ.cons (pe_fmt (pv 2)) PJ.nil)))) pa_nil), (pss_cons (ps_ost (pv 0) (pv 1)) (pss_one (ps_ost (pv 0) (pv 2)))), fun q => ?_⟩
  rw [show (NdefX.startF ["self", "what", "limit", "__class__"] (V.ref a :: [V.str v0, V.int v1]) [none] : L2.St) = [some (.ref a), some (.str v0), some (.int v1), none] from rfl]
  refine g_cons ?_
  refine WExc.g_join0 fun acc hacc => ?_
  refine WExc.g_js ?_
  refine WExc.g_fmt ?_
  refine g_var rfl ?_
  refine WExc.g_fmtS h0 ?_
  refine WExc.g_jsS h0 hacc (by decide) fun acc hacc => ?_
  refine WExc.g_js ?_
  refine g_c ?_
  refine WExc.g_jsS (by decide +kernel) hacc (by decide) fun acc hacc => ?_
  refine WExc.g_js ?_
  refine WExc.g_fmt ?_
  refine g_var rfl ?_
  refine WExc.g_fmtI h1 ?_
  refine WExc.g_jsS (WExc.num_len h1) hacc (by decide) fun acc hacc => ?_
  refine WExc.g_jsN ?_
  refine g_nil ?_
  refine ⟨by show 1 ≤ 1000; decide, ha, ?_⟩
  refine g_seq ?_
  refine WExc.g_ost ?_; refine g_var rfl ?_; refine g_var rfl ?_
  refine ⟨a, _, rfl, T.xo_TooLarge, T.xn_TooLarge_what, .inl ⟨ha, fun dx ndx hda => ?_⟩⟩
  dsimp only
  refine WExc.g_ost ?_; refine g_var rfl ?_; refine g_var rfl ?_
  refine ⟨a, _, rfl, T.xo_TooLarge, T.xn_TooLarge_limit, .inr ⟨dx, _, by first | exact upd_same | (rw [upd_ne (Ne.symm hda)]; exact upd_same), by first | exact upd_same | (rw [upd_ne hda]; exact upd_same), by simp, ?_⟩⟩
  refine q dx _ ndx (fun b o hb hne => ?_) (by first | exact upd_same | (rw [upd_ne (Ne.symm hda)]; exact upd_same)) (by first | exact upd_same | (rw [upd_ne hda]; exact upd_same))
  have hbd : b ≠ dx := ne_of_none hb ndx
  first | (rw [upd_ne hne, upd_ne hbd]; exact hb) | (rw [upd_ne hbd, upd_ne hne, upd_ne hbd]; exact hb) | (rw [upd_ne hbd, upd_ne hbd, upd_ne hne, upd_ne hbd]; exact hb)
end
end K01
set_option Elab.async false
set_option linter.all false
set_option maxRecDepth 100000
set_option maxHeartbeats 4000000
namespace K01
open PySem PySem.Spec PyProof.Rows L2 SX
def LET : List Nat := (List.range 26).map (· + 97)
def DIG : List Nat := (List.range 10).map (· + 48)
def WS : List Nat := LET ++ DIG ++ [95]
def DBL : List (List Nat) := [[60, 61], [61, 61], [33, 61], [62, 61], [60, 60], [62, 62]]
def GLU : List (List Nat) := [[61, 61], [60, 61], [60, 60], [45, 45]]
def cd (s : String) : List Nat := s.toList.map Char.toNat
def KWs : List (List Nat) := ["module", "end", "in", "out", "wire", "reg", "mem", "use", "as", "each", "from", "to", "when", "always", "if", "then", "else", "within", "all", "any", "odd", "promise"].map cd
def SYMS : List (List Nat) := ["(", ")", "[", "]", "{", "}", ",", ":", ".", "=", "<=", "==", "!=", "<", ">=", "<<", ">>", "+", "-", "*", "&", "|", "^", "~", "#", "@"].map cd
def SGL : List Nat := cd "()[]{},:.=<+-*&|^~#@"
def kKey : Str := Str.ofString "keyword"
def kName : Str := Str.ofString "name"
def kNum : Str := Str.ofString "number"
def kSym : Str := Str.ofString "symbol"
def tokLen (r : List Nat) : Nat := match r with
  | [] => 0
  | c :: t => if c ∈ LET then ((c :: t).takeWhile (fun x => decide (x ∈ WS))).length else if c ∈ DIG then ((c :: t).takeWhile (fun x => decide (x ∈ DIG))).length else if (c :: t).take 2 ∈ DBL then 2 else 1
theorem tw_at {p : Nat → Bool} : ∀ {r : List Nat} {k c : Nat}, r[k]? = some c → k ≤ (r.takeWhile p).length → (p c = true ↔ k < (r.takeWhile p).length)
  | [], k, c, h, _ => by simp at h
  | x :: r, 0, c, h, _ => by
    have : x = c := Option.some.inj h
    subst this
    rw [List.takeWhile_cons]
    cases hp : p x <;> simp
  | x :: r, k + 1, c, h, hk => by
    rw [List.takeWhile_cons] at hk ⊢
    cases hp : p x with
    | false => rw [hp] at hk; simp at hk
    | true =>
      rw [hp] at hk
      simp only [if_true, List.length_cons] at hk ⊢
      rw [tw_at (r := r) (k := k) (by simpa using h) (by omega)]
      omega
theorem let_dig {c} (h : c ∈ LET) : c ∉ DIG := (show ∀ c ∈ LET, c ∉ DIG by decide) c h
theorem dig_let {c} (h : c ∈ DIG) : c ∉ LET := (show ∀ c ∈ DIG, c ∉ LET by decide) c h
theorem mem_DIG {c : Nat} (h : 48 ≤ c) (h1 : c ≤ 57) : c ∈ DIG := by
  refine List.mem_map.mpr ⟨c - 48, List.mem_range.mpr (by omega), by omega⟩
theorem inV_strs {z : List Nat} : ∀ {l : List (List Nat)}, inV (.str (S z)) (l.map fun x => V.str (S x)) = decide (z ∈ l)
  | [] => rfl
  | x :: l => by
    have ih := inV_strs (z := z) (l := l)
    unfold inV at ih ⊢
    rw [List.map_cons, List.any_cons, ih]
    show ((S x == S z) || decide (z ∈ l)) = _
    rw [S_beq_eq]
    by_cases h : x = z
    · subst h; simp
    · have hne : ¬ z = x := fun e => h e.symm
      simp [h, hne]
theorem flat_strs : ∀ {l : List (List Nat)}, (l.map fun x => V.str (S x)).all flatV = true
  | [] => rfl
  | x :: l => by rw [List.map_cons, List.all_cons, flat_strs]; rfl

theorem take_tw (p : Nat → Bool) : ∀ l : List Nat, l.take (l.takeWhile p).length = l.takeWhile p
  | [] => rfl
  | x :: l => by
    rw [List.takeWhile_cons]
    cases h : p x with
    | false => simp
    | true => simp only [if_true, List.length_cons, List.take_succ_cons, take_tw p l]
theorem mem_tw {p : Nat → Bool} {x : Nat} : ∀ {l : List Nat}, x ∈ l.takeWhile p → p x = true
  | [], h => by simp at h
  | y :: l, h => by
    rw [List.takeWhile_cons] at h
    cases hp : p y with
    | false => rw [hp] at h; simp at h
    | true =>
      rw [hp] at h
      simp only [if_true] at h
      rcases List.mem_cons.mp h with rfl | h
      · exact hp
      · exact mem_tw h
abbrev Tok' := Str × List Nat × Nat
def goodNum (w : List Nat) : Bool := match w with
  | [] => false
  | c :: t => if c = 48 then decide (t = []) else decide ((c :: t).length ≤ 5 ∧ NumText.digitsVal (c :: t) ≤ 65535)
/-- the kind of the token that r begins with -/
def kd (r : List Nat) : Option Str := match r with
  | [] => none
  | c :: t => if c ∈ LET then (if 16 < tokLen (c :: t) then none else some (if (c :: t).take (tokLen (c :: t)) ∈ KWs then kKey else kName))
    else if c ∈ DIG then (if goodNum ((c :: t).take (tokLen (c :: t))) = true then some kNum else none)
    else if (c :: t).take 2 ∈ DBL then some kSym else if c ∈ SGL then some kSym else none
inductive Stp
  | stop
  | bad
  | skip
  | tok (k : Str) (n : Nat)
def stp (r : List Nat) : Stp := match r with
  | [] => .stop
  | c :: t => if c = 32 then .skip else if (c :: t).take 2 = [45, 45] then .stop else match kd (c :: t) with
    | none => .bad
    | some k => .tok k (tokLen (c :: t))
def scan (l : List Nat) : Nat → Nat → List Tok' × Option Nat
  | 0, _ => ([], none)
  | f + 1, a => match stp (l.drop a) with
    | .stop => ([], none)
    | .bad => ([], some (a + 1))
    | .skip => scan l f (a + 1)
    | .tok k n => ((k, (l.drop a).take n, a + 1) :: (scan l f (a + n)).1, (scan l f (a + n)).2)
theorem tokLen_pos (c : Nat) (t : List Nat) : 1 ≤ tokLen (c :: t) := by
  unfold tokLen
  dsimp only
  split
  · rename_i h
    have h2 : c ∈ WS := List.mem_append.mpr (.inl (List.mem_append.mpr (.inl h)))
    rw [List.takeWhile_cons, if_pos (decide_eq_true h2), List.length_cons]; omega
  · split
    · rename_i h
      rw [List.takeWhile_cons, if_pos (decide_eq_true h), List.length_cons]; omega
    · split <;> omega
theorem tokLen_le (c : Nat) (t : List Nat) : tokLen (c :: t) ≤ (c :: t).length := by
  have tw : ∀ p : Nat → Bool, ((c :: t).takeWhile p).length ≤ (c :: t).length := fun p => List.Sublist.length_le (List.takeWhile_sublist _)
  unfold tokLen
  dsimp only
  split
  · exact tw _
  · split
    · exact tw _
    · split
      · rename_i h
        have h2 : ((c :: t).take 2).length = 2 := (show ∀ d ∈ DBL, d.length = 2 by decide) _ h
        rw [List.length_take] at h2; omega
      · simp
theorem stp_tok {r : List Nat} {k : Str} {n : Nat} (h : stp r = .tok k n) : 1 ≤ n ∧ n ≤ r.length := by
  unfold stp at h
  cases r with
  | nil => cases h
  | cons c t =>
    dsimp only at h
    split at h
    · cases h
    · split at h
      · cases h
      · split at h
        · cases h
        · cases h
          exact ⟨tokLen_pos c t, tokLen_le c t⟩
theorem scan_end {l : List Nat} : ∀ {f a : Nat}, l.length ≤ a → scan l f a = ([], none)
  | 0, _, _ => rfl
  | f + 1, a, h => by
    unfold scan
    rw [List.drop_of_length_le h]
    rfl
theorem scan_ge {l : List Nat} : ∀ {f g a : Nat}, l.length ≤ a + f → f ≤ g → scan l g a = scan l f a
  | 0, g, a, h, _ => by rw [scan_end (by omega), scan_end (by omega)]
  | f + 1, 0, a, _, h => by omega
  | f + 1, g + 1, a, h, hg => by
    unfold scan
    cases e : stp (l.drop a) with
    | stop => rfl
    | bad => rfl
    | skip => exact scan_ge (by omega) (by omega)
    | tok k n =>
      have := (stp_tok e).1
      dsimp only
      rw [scan_ge (l := l) (f := f) (g := g) (a := a + n) (by omega) (by omega)]
def sc (l : List Nat) (a : Nat) : List Tok' × Option Nat := scan l (l.length - a) a
theorem sc_end {l : List Nat} {a : Nat} (h : l.length ≤ a) : sc l a = ([], none) := scan_end h
theorem sc_step {l : List Nat} {a : Nat} (h : a < l.length) : sc l a = match stp (l.drop a) with
    | .stop => ([], none)
    | .bad => ([], some (a + 1))
    | .skip => sc l (a + 1)
    | .tok k n => ((k, (l.drop a).take n, a + 1) :: (sc l (a + n)).1, (sc l (a + n)).2) := by
  unfold sc
  obtain ⟨f, hf⟩ : ∃ f, l.length - a = f + 1 := ⟨l.length - a - 1, by omega⟩
  rw [hf]
  conv => lhs; unfold scan
  cases e : stp (l.drop a) with
  | stop => rfl
  | bad => rfl
  | skip =>
    dsimp only
    rw [show l.length - (a + 1) = f by omega]
  | tok k n =>
    have h1 := stp_tok e
    dsimp only
    rw [scan_ge (l := l) (f := l.length - (a + n)) (g := f) (a := a + n) (by omega) (by omega)]
theorem scan_len {l : List Nat} : ∀ {f a : Nat}, (scan l f a).1.length ≤ f
  | 0, _ => by simp [scan]
  | f + 1, a => by
    unfold scan
    cases e : stp (l.drop a) with
    | stop => simp
    | bad => simp
    | skip => exact Nat.le_trans scan_len (by omega)
    | tok k n =>
      have h1 := scan_len (l := l) (f := f) (a := a + n)
      simp; omega
theorem sc_len {l : List Nat} {a : Nat} : (sc l a).1.length ≤ l.length := Nat.le_trans scan_len (by omega)
theorem scan_col {l : List Nat} : ∀ {f a : Nat} {col : Nat}, (scan l f a).2 = some col → 1 ≤ col
  | 0, _, _, h => by simp [scan] at h
  | f + 1, a, col, h => by
    unfold scan at h
    cases e : stp (l.drop a) with
    | stop => rw [e] at h; cases h
    | bad => rw [e] at h; cases h; omega
    | skip => rw [e] at h; exact scan_col h
    | tok k n => rw [e] at h; exact scan_col h
theorem sc_col {l : List Nat} {a col : Nat} (h : (sc l a).2 = some col) : 1 ≤ col := scan_col h
/-! ### the answer's data -/
inductive Dt
  | i (n : Int)
  | s (x : Str)
  | t (xs : List Dt)
inductive At (H : Hp) : V → Dt → Prop
  | i (n : Int) : At H (.int n) (.i n)
  | s (x : Str) : At H (.str x) (.s x)
  | t {p : Addr} {vs : List V} {ds : List Dt} (h : H p = some (.tup vs)) (hl : vs.length = ds.length) (hz : ds.length ≤ 1000) (hi : ∀ (i : Nat) (v : V) (d : Dt), vs[i]? = some v → ds[i]? = some d → At H v d) : At H (.ref p) (.t ds)
def Deep : Nat → Dt → Prop
  | 0, _ => False
  | _ + 1, .i _ => True
  | _ + 1, .s _ => True
  | n + 1, .t xs => ∀ x ∈ xs, Deep n x
theorem At.same {H H' : Hp} (s : Same H H') {v : V} {d : Dt} (h : At H v d) : At H' v d := by
  induction h with
  | i n => exact .i n
  | s x => exact .s x
  | t h hl hz _ ih => exact .t (s _ _ h) hl hz ih
def tkD (t : Tok') : Dt := .t [.s t.1, .s (S t.2.1), .i (t.2.2 : Nat)]
def tv (t : Tok') : List V := [.str t.1, .str (S t.2.1), .int (t.2.2 : Nat)]
theorem tk_at {H : Hp} {p : Addr} {t : Tok'} (h : H p = some (.tup (tv t))) : At H (.ref p) (tkD t) := by
  refine .t h rfl (by simp) fun i v d h1 h2 => ?_
  match i, h1, h2 with
  | 0, h1, h2 => cases h1; cases h2; exact .s _
  | 1, h1, h2 => cases h1; cases h2; exact .s _
  | 2, h1, h2 => cases h1; cases h2; exact .i _
/-- what is due of a line -/
def outD (l : List Nat) (ln : Int) : Dt := match (sc l 0).2 with
  | some col => .t [.s (Str.ofString "bad"), .i ln, .i (col : Nat)]
  | none => if 40 < (sc l 0).1.length then .t [.s (Str.ofString "large"), .s (Str.ofString "tokens"), .i 40] else .t [.s (Str.ofString "list"), .t ((sc l 0).1.map tkD)]
theorem out_deep (l : List Nat) (ln : Int) : Deep 4 (outD l ln) := by
  unfold outD
  split
  · intro x hx
    simp at hx
    rcases hx with rfl | rfl | rfl <;> trivial
  · split
    · intro x hx
      simp at hx
      rcases hx with rfl | rfl | rfl <;> trivial
    · intro x hx
      simp at hx
      rcases hx with rfl | rfl
      · trivial
      · intro y hy
        obtain ⟨t, _, rfl⟩ := List.mem_map.mp hy
        intro z hz
        simp at hz
        rcases hz with rfl | rfl | rfl <;> trivial
theorem at3 {H : Hp} {p : Addr} {v1 v2 v3 : V} {d1 d2 d3 : Dt} (h : H p = some (.tup [v1, v2, v3])) (a1 : At H v1 d1) (a2 : At H v2 d2) (a3 : At H v3 d3) : At H (.ref p) (.t [d1, d2, d3]) := by
  refine .t h rfl (by simp) fun i v d e1 e2 => ?_
  match i, e1, e2 with
  | 0, e1, e2 => cases e1; cases e2; exact a1
  | 1, e1, e2 => cases e1; cases e2; exact a2
  | 2, e1, e2 => cases e1; cases e2; exact a3
theorem at2 {H : Hp} {p : Addr} {v1 v2 : V} {d1 d2 : Dt} (h : H p = some (.tup [v1, v2])) (a1 : At H v1 d1) (a2 : At H v2 d2) : At H (.ref p) (.t [d1, d2]) := by
  refine .t h rfl (by simp) fun i v d e1 e2 => ?_
  match i, e1, e2 with
  | 0, e1, e2 => cases e1; cases e2; exact a1
  | 1, e1, e2 => cases e1; cases e2; exact a2
theorem atL {H : Hp} {p : Addr} {ps : List (Addr × Tok')} (h : H p = some (.tup (ps.map fun r => V.ref r.1))) (hz : ps.length ≤ 1000) (hr : ∀ r ∈ ps, H r.1 = some (.tup (tv r.2))) : At H (.ref p) (.t ((ps.map (·.2)).map tkD)) := by
  refine .t h (by simp) (by simpa using hz) fun i v d e1 e2 => ?_
  rw [List.getElem?_map] at e1 e2
  rw [List.getElem?_map] at e2
  cases e : ps[i]? with
  | none => rw [e] at e1; cases e1
  | some r =>
    rw [e] at e1 e2
    cases e1; cases e2
    exact tk_at (hr r (List.mem_of_getElem? e))
end K01
set_option Elab.async false
set_option linter.all false
set_option maxRecDepth 100000
set_option maxHeartbeats 4000000
namespace K01
open PySem PySem.Spec PyProof.Rows L2 WL SX
local macro_rules | `(tactic| walk_at "lk") => `(tactic| first
  | exact upd_same
  | assumption
  | (rw [upd_ne (by assumption)]; first | exact upd_same | assumption | (rw [upd_ne (by assumption)]; first | exact upd_same | assumption | (rw [upd_ne (by assumption)]; first | exact upd_same | assumption))))
local macro_rules | `(tactic| walk_at "go1") => `(tactic| first
  | (with_reducible refine g_seq ?_)
  | (with_reducible refine g_asg ?_)
  | (with_reducible refine g_name ?_)
  | (with_reducible refine g_sub ?_)
  | ((with_reducible refine' g_var ?gv ?_); (case gv => exact rfl))
  | (with_reducible refine g_c ?_)
  | (with_reducible refine g_op ?_)
  | (with_reducible refine g_un ?_)
  | (with_reducible refine g_I0 ?_)
  | ((with_reducible refine g_I ?gc ?_); (case gc => first | assumption | decide | (show (0 : Int) < _; omega) | exact Or.inr ⟨by omega, by omega⟩ | exact Or.inl ⟨by omega, by omega⟩ | exact ⟨by omega, by omega⟩))
  | (with_reducible refine iteT ?_)
  | (with_reducible refine iteF ?_)
  | (with_reducible refine iteNT ?_)
  | (with_reducible refine iteNF ?_)
  | (with_reducible refine g_andV ?_)
  | (with_reducible refine g_orV ?_)
  | ((with_reducible refine' g_lenS (by assumption) ?_))
  | ((with_reducible refine' g_lenS (SqL.of (by walk_at "lk")) ?_))
  | (with_reducible refine g_U ?_)
  | ((with_reducible refine g_eq ?gs ?_); (case gs => rfl))
  | ((with_reducible refine g_ne ?gs ?_); (case gs => rfl))
  | (with_reducible refine g_drop ?_)
  | (with_reducible refine g_ret ?_)
  | (with_reducible refine g_next ?_)
  | (with_reducible refine g_ifS ?_)
  | (with_reducible refine g_ifE ?_)
  | (with_reducible refine g_test ?_)
  | (with_reducible refine g_tb ?_)
  | (with_reducible refine g_bl ?_)
  | (with_reducible refine g_not ?_)
  | (with_reducible refine g_and ?_)
  | (with_reducible refine g_or ?_)
  | (with_reducible refine g_nil ?_)
  | (with_reducible refine g_cons ?_)
  | (with_reducible refine g_cb ?_)
  | (with_reducible refine g_call ?_)
  | (with_reducible refine g_int ?_)
  | (with_reducible refine g_two ?_)
  | ((with_reducible refine g_lenStr ?gz ?_); (case gz => first | assumption | exact sz_le (by omega)))
  | (with_reducible refine g_m1 ?_)
  | (with_reducible refine g_isS ?_)
  | (with_reducible refine g_nn ?_)
  | (with_reducible refine g_yes ?_)
  | (with_reducible refine g_for ?_)
  | (with_reducible refine g_ckw ?_)
  | (with_reducible refine g_chain ?_)
  | (with_reducible refine g_gcons ?_)
  | (with_reducible refine g_gnil ?_)
  | (with_reducible refine g_notV ?_)
  | (with_reducible refine g_iZip ?_)
  | (with_reducible refine g_lc ?_)
  | (with_reducible refine g_lc2 ?_)
  | (with_reducible refine g_iList ?_)
  | (with_reducible refine g_iRng1 ?_)
  | (with_reducible refine g_iRng2 ?_)
  | (with_reducible refine g_sl ?_)
  | (with_reducible refine g_noPart ?_)
  | (with_reducible refine g_part ?_)
  | (with_reducible refine g_ex1 ?_)
  | (with_reducible refine g_bm ?_)
  | ((with_reducible refine' g_tyL (by walk_at "lk") ?_))
  | ((with_reducible refine' g_aug ?gv ?_); (case gv => exact rfl))
  | (with_reducible refine g_ipI ?_)
  | (with_reducible refine g_turn ?_)
  | (with_reducible refine g_brk ?_)
  | (with_reducible refine g_cont ?_)
  | (with_reducible refine g_sign ?_)
  | (with_reducible refine g_lst ?_)
  | (with_reducible refine g_tup ?_)
  | ((with_reducible refine' g_ixL (by assumption) ?ga ?_); (case ga => assumption))
  | ((with_reducible refine' g_ixL (SqL.of (by walk_at "lk")) ?ga ?_); (case ga => first | exact rfl | assumption))
  | ((with_reducible refine' g_ixT (SqT.of (by walk_at "lk")) ?ga ?_); (case ga => first | exact rfl | assumption))
  | ((with_reducible refine' g_lenT (SqT.of (by walk_at "lk")) ?_))
  | ((with_reducible refine' g_isiS (b := true) ?ga ?_); (case ga => decide +kernel))
  | ((with_reducible refine' g_isiS (b := false) ?ga ?_); (case ga => decide +kernel))
  | ((with_reducible refine' g_isiI (b := true) ?ga ?_); (case ga => decide +kernel))
  | ((with_reducible refine' g_isiI (b := false) ?ga ?_); (case ga => decide +kernel))
  | ((with_reducible refine' g_setL2 ?ga ?gb ?_); (case ga => exact rfl); (case gb => exact rfl))
  | ((with_reducible refine' g_setL (by walk_at "lk") ?ga ?gb ?_); (case ga => exact rfl); (case gb => exact rfl)))
local macro_rules | `(tactic| walk_at "go") => `(tactic| ((repeat walk_at "go1"); try dsimp only [List.set, List.cons_append, List.nil_append]))
def spRun : Sp := fun vs H Q _ => ∃ (l g : List Nat) (a : Nat), vs = [.str (S l), .int a, .str (S g)] ∧ a ≤ l.length ∧ l.length ≤ 1000 ∧ Q (.int ((a + ((l.drop a).takeWhile fun x => decide (x ∈ g)).length : Nat))) H
def spTokEnd : Sp := fun vs H Q _ => ∃ (l : List Nat) (a : Nat), vs = [.str (S l), .int a] ∧ a < l.length ∧ l.length ≤ 1000 ∧ Q (.int ((a + tokLen (l.drop a) : Nat))) H
def spIsNum : Sp := fun vs H Q _ => ∃ (c : Nat) (t : List Nat), vs = [.str (S (c :: t))] ∧ NumText.AllDigits (c :: t) ∧ t.length ≤ 200 ∧ Q (.bl (goodNum (c :: t))) H
def spNumGood : Sp := spIsNum
def kV : Option Str → V
  | none => .non
  | some k => .str k
def spKind : Sp := fun vs H Q _ => ∃ (c : Nat) (t : List Nat), vs = [.str (S ((c :: t).take (tokLen (c :: t))))] ∧ t.length ≤ 200 ∧ Q (kV (kd (c :: t))) H
theorem lit_let : Str.ofString "abcdefghijklmnopqrstuvwxyz" = S LET := by decide +kernel
theorem lit_dig : Str.ofString "0123456789" = S DIG := by decide +kernel
theorem lit_ws : Str.ofString "abcdefghijklmnopqrstuvwxyz0123456789_" = S WS := by decide +kernel
theorem lit_sgl : Str.ofString "()[]{},:.=<+-*&|^~#@" = S SGL := by decide +kernel
theorem cut2 (l : List Nat) (a : Nat) : cutS (S l) (some (a : Int)) (some ((a : Int) + 2)) = S ((l.drop a).take 2) := by
  have e := cutS_nat l a (a + 2)
  rw [show a + 2 - a = 2 by omega] at e
  exact e
def dblV : List V := [V.str (Str.ofString "<="), V.str (Str.ofString "=="), V.str (Str.ofString "!="), V.str (Str.ofString ">="), V.str (Str.ofString "<<"), V.str (Str.ofString ">>")]
theorem dbl_lit : dblV = DBL.map fun x => V.str (S x) := by
  have e : [Str.ofString "<=", Str.ofString "==", Str.ofString "!=", Str.ofString ">=", Str.ofString "<<", Str.ofString ">>"] = DBL.map S := by decide +kernel
  have e2 := congrArg (List.map V.str) e
  rw [List.map_map] at e2
  exact e2
def kwVs : List V := [V.str (Str.ofString "module"), V.str (Str.ofString "end"), V.str (Str.ofString "in"), V.str (Str.ofString "out"), V.str (Str.ofString "wire"), V.str (Str.ofString "reg"), V.str (Str.ofString "mem"), V.str (Str.ofString "use"), V.str (Str.ofString "as"), V.str (Str.ofString "each"), V.str (Str.ofString "from"), V.str (Str.ofString "to"), V.str (Str.ofString "when"), V.str (Str.ofString "always"), V.str (Str.ofString "if"), V.str (Str.ofString "then"), V.str (Str.ofString "else"), V.str (Str.ofString "within"), V.str (Str.ofString "all"), V.str (Str.ofString "any"), V.str (Str.ofString "odd"), V.str (Str.ofString "promise")]
theorem kw_lit : kwVs = KWs.map fun x => V.str (S x) := by
  have e : ["module", "end", "in", "out", "wire", "reg", "mem", "use", "as", "each", "from", "to", "when", "always", "if", "then", "else", "within", "all", "any", "odd", "promise"].map Str.ofString = KWs.map S := by decide +kernel
  have e2 := congrArg (List.map V.str) e
  rw [List.map_map, List.map_map] at e2
  exact e2
theorem g_inT {H : Hp} {Q : VK} {K : PySem.W.Frag} {p : Addr} {w : List Nat} {xs : List V} {l : List (List Nat)} (h : SqT K H p xs) (e : xs = l.map fun x => V.str (S x)) (q : Q (.bl (decide (w ∈ l))) H) : rIn K false (.str (S w)) (.ref p) H Q := by
  subst e
  refine ⟨p, _, rfl, .inr h, rfl, flat_strs, ?_⟩
  rw [inV_strs]; exact q
theorem g_inL {H : Hp} {Q : VK} {K : PySem.W.Frag} {p : Addr} {w : List Nat} {l : List (List Nat)} (h : SqL K H p (l.map fun x => V.str (S x))) (q : Q (.bl (decide (w ∈ l))) H) : rIn K false (.str (S w)) (.ref p) H Q := by
  refine ⟨p, _, rfl, .inl h, rfl, flat_strs, ?_⟩
  rw [inV_strs]; exact q
section
variable {P : Program} {w : World} {K : PySem.W.Frag} {mg : Str → Option Value} {base : Heap} {dA : Nat → Addr}
theorem ok__end_of_run (T : Txt K mg dA)  {f : Addr} {fd : FuncData} (F : Fun K "_end_of_run" "_end_of_run" s__end_of_run f fd) : FnOk P w K mg base CX0 1 f fd ["text", "at", "signs"] spRun := by
  refine F.ok sc__end_of_run (fun vs H Q E h => ?_) (fun cdv A outer s H vs Q E hr h => ?_)
  · obtain ⟨l, g, a, rfl, _⟩ := h
    rfl
  obtain ⟨l, g, a, rfl, ha, hl, q⟩ := h
  refine ⟨_, (pss_cons (ps_while PassesOwn.never (PW.pt (pw_and (pt_cmpR op_lt (pv 1) (pe_callB call_len_str (by rfl) T.b_len (by decide +kernel) (pa_cons (pv 0) pa_nil)) (nomark _)) (pw_and1 (pt_cmpR op_in_sign (pe_ix ix_str (pv 0) (pv 1) (fun _ _ => rfl)) (pv 2) rfl)))) (pss_one (ps_aug (i := 1) sc__end_of_run.nd rfl (.inl rfl) pe_int ip_add)))
      (pss_one (ps_ret (pv 1)))), ?_⟩
  rw [show (L2.start ["text", "at", "signs"] [.str (S l), .int a, .str (S g)] : L2.St) = [some (.str (S l)), some (.int a), some (.str (S g))] from rfl]
  try simp only [WL.cxK]
  generalize hm : ((l.drop a).takeWhile fun x => decide (x ∈ g)).length = m at q
  have hml : a + m ≤ l.length := by
    have h1 : ((l.drop a).takeWhile fun x => decide (x ∈ g)).length ≤ (l.drop a).length := List.Sublist.length_le (List.takeWhile_sublist _)
    rw [hm, List.length_drop] at h1; omega
  have hsz : (S l).length ≤ sizeLine := by rw [S_len]; exact sz_le (by omega)
  walk_at "go"
  refine f_while (fun μ σ' H' => ∃ k : Nat, σ' = [some (.str (S l)), some (.int ((a + k : Nat) : Int)), some (.str (S g))] ∧ k ≤ m ∧ μ = m - k ∧ H' = H) m ⟨0, rfl, by omega, by omega, rfl⟩ ?_
  · rintro μ σ' H' ⟨k, rfl, hk, rfl, rfl⟩
    walk_at "go"
    rw [S_len]
    refine g_ite (fun e => ?_) (fun e => ?_)
    · have hlt : a + k < l.length := by omega
      have hc : (S l).cps.toList[a + k]? = some l[a + k] := List.getElem?_eq_getElem hlt
      have htw := tw_at (p := fun x => decide (x ∈ g)) (r := l.drop a) (k := k) (c := l[a + k]) (by rw [List.getElem?_drop]; exact hc) (by omega)
      rw [hm] at htw
      walk_at "go"
      refine g_ixS hsz (at_z (j := a + k) rfl hc) ?_
      walk_at "go"
      refine g_ite (fun e2 => ?_) (fun e2 => ?_)
      · have : k < m := htw.1 (decide_eq_true e2)
        walk_at "go"
        exact ⟨m - (k + 1), by omega, k + 1, by rw [show ((a + k : Nat) : Int) + 1 = ((a + (k + 1) : Nat) : Int) by omega], by omega, rfl, rfl⟩
      · have : ¬ k < m := fun h => e2 (of_decide_eq_true (htw.2 h))
        walk_at "go"
        rw [show k = m by omega]; exact q
    · walk_at "go"
      rw [show k = m by omega]; exact q
theorem ok__end_of_token (T : Txt K mg dA) (c__end_of_run : C8.Cal P w K mg base 1 "_end_of_run" spRun []) {f : Addr} {fd : FuncData} (F : Fun K "_end_of_token" "_end_of_token" s__end_of_token f fd) : FnOk P w K mg base CX0 2 f fd ["text", "at"] spTokEnd := by
  refine F.ok sc__end_of_token (fun vs H Q E h => ?_) (fun cdv A outer s H vs Q E hr h => ?_)
  · obtain ⟨l, a, rfl, _⟩ := h
    rfl
  obtain ⟨l, a, rfl, ha, hl, q⟩ := h
  refine ⟨_, (pss_cons (ps_if (pt_cmpR op_in_sign (pe_ix ix_str (pv 0) (pv 1) (fun _ _ => rfl)) (C8.pe_gc (by rfl) T.g_LETTERS) rfl) (pss_one (ps_ret (C8.pe_c c__end_of_run hr (by decide) (by rfl) (pa_cons (pv 0) (pa_cons (pv 1) (pa_cons (C8.pe_gc (by rfl) T.g_WORD_SIGNS) pa_nil)))))) pss_nil)
      (pss_cons (ps_if (pt_cmpR op_in_sign (pe_ix ix_str (pv 0) (pv 1) (fun _ _ => rfl)) (C8.pe_gc (by rfl) T.g_DIGITS) rfl) (pss_one (ps_ret (C8.pe_c c__end_of_run hr (by decide) (by rfl) (pa_cons (pv 0) (pa_cons (pv 1) (pa_cons (C8.pe_gc (by rfl) T.g_DIGITS) pa_nil)))))) pss_nil)
      (pss_cons (ps_if (pt_cmpR (kop_in_seq K) (pe_slice sl_str (pv 0) (po_some (pv 1)) (po_some (pe_op op_add (pv 1) pe_int))) (C8.pe_gc (by rfl) T.g_DOUBLE_SYMBOLS) rfl) (pss_one (ps_ret (pe_op op_add (pv 1) pe_int))) pss_nil)
      (pss_one (ps_ret (pe_op op_add (pv 1) pe_int)))))), ?_⟩
  rw [show (L2.start ["text", "at"] [.str (S l), .int a] : L2.St) = [some (.str (S l)), some (.int a)] from rfl]
  try simp only [WL.cxK]
  have hsz : (S l).length ≤ sizeLine := by rw [S_len]; exact sz_le (by omega)
  have hc : (S l).cps.toList[a]? = some l[a] := List.getElem?_eq_getElem ha
  have hd : l.drop a = l[a] :: l.drop (a + 1) := List.drop_eq_getElem_cons ha
  generalize l[a] = c at hc hd
  rw [hd] at q
  unfold tokLen at q
  walk_at "go"
  refine g_ixS hsz (at_z (j := a) rfl hc) ?_
  walk_at "go"
  rw [lit_let]
  refine g_ite (fun e => ?_) (fun e => ?_)
  · have e : c ∈ LET := e
    walk_at "go"
    refine ⟨l, WS, a, rfl, by omega, hl, ?_⟩
    simp only [e, if_true] at q
    rw [hd]; exact q
  have e : c ∉ LET := e
  walk_at "go"
  refine g_ixS hsz (at_z (j := a) rfl hc) ?_
  walk_at "go"
  rw [lit_dig]
  refine g_ite (fun e2 => ?_) (fun e2 => ?_)
  · have e2 : c ∈ DIG := e2
    walk_at "go"
    refine ⟨l, DIG, a, rfl, by omega, hl, ?_⟩
    simp only [e, e2, if_true, if_false] at q
    rw [hd]; exact q
  have e2 : c ∉ DIG := e2
  walk_at "go"
  refine g_slS hsz (cut2 l a) ?_
  walk_at "go"
  refine g_inT (T.t_DOUBLE_SYMBOLS _) dbl_lit ?_
  rw [hd]
  walk_at "go"
  refine g_ite (fun e3 => ?_) (fun e3 => ?_)
  · walk_at "go"
    simp only [e, e2, e3, if_true, if_false] at q
    exact q
  · walk_at "go"
    simp only [e, e2, e3, if_false] at q
    exact q
theorem ok__is_number (T : Txt K mg dA)  {f : Addr} {fd : FuncData} (F : Fun K "_is_number" "_is_number" s__is_number f fd) : FnOk P w K mg base CX0 1 f fd ["digits"] spIsNum := by
  refine F.ok sc__is_number (fun vs H Q E h => ?_) (fun cdv A outer s H vs Q E hr h => ?_)
  · obtain ⟨c, t, rfl, _⟩ := h
    rfl
  obtain ⟨c, t, rfl, hd, hl, q⟩ := h
  refine ⟨_, (pss_cons (ps_if (pt_cmpR op_eq (pe_ix ix_str (pv 0) pe_int (fun _ _ => rfl)) pe_str (nomark _)) (pss_one (ps_ret (pe_cmpR op_eq (pv 0) pe_str (nomark _)))) pss_nil)
      (pss_one (ps_ret (pe_and (pe_cmpR op_le (pe_callB call_len_str (by rfl) T.b_len (by decide +kernel) (pa_cons (pv 0) pa_nil)) (C8.pe_gc (by rfl) T.g_LONGEST_NUMBER) (nomark _)) (pe_one (pe_cmpR op_le (pe_callTy call_int_str (by rfl) T.b_int (by decide +kernel) (pa_cons (pv 0) pa_nil)) (C8.pe_gc (by rfl) T.g_GREATEST_NUMBER) (nomark _))))))), ?_⟩
  rw [show (L2.start ["digits"] [.str (S (c :: t))] : L2.St) = [some (.str (S (c :: t)))] from rfl]
  try simp only [WL.cxK]
  have hsz : (S (c :: t)).length ≤ sizeLine := by rw [S_len]; exact sz_le (by simp; omega)
  have hc : (S (c :: t)).cps.toList[0]? = some c := rfl
  unfold goodNum at q
  walk_at "go"
  refine g_ixS hsz (at_z (j := 0) rfl hc) ?_
  walk_at "go"
  refine g_ite (fun e => ?_) (fun e => ?_)
  · have h48 : c = 48 := by
      have e1 : S [c] = S [48] := V.str.inj e
      exact (List.cons.inj (S_inj e1)).1
    subst h48
    simp only [if_true] at q
    walk_at "go"
    have e2 : decide (V.str (S (48 :: t)) = V.str (Str.ofString "0")) = decide (t = []) := by
      refine decide_eq_decide.mpr ⟨fun h => ?_, fun h => by rw [h]; rfl⟩
      have e1 : S (48 :: t) = S [48] := V.str.inj h
      exact (List.cons.inj (S_inj e1)).2
    rw [e2]
    exact q
  · have h48 : c ≠ 48 := fun h => e (by rw [h]; rfl)
    simp only [h48, if_false] at q
    walk_at "go"
    rw [S_len]
    by_cases h5 : (c :: t).length ≤ 5
    · rw [decide_eq_true (show (((c :: t).length : Nat) : Int) ≤ 5 by omega)]
      walk_at "go"
      refine ⟨_, NumText.digitsVal (c :: t), rfl, PySem.intText_digits (x := S (c :: t)) hd (List.cons_ne_nil _ _) (by rw [S_len]; omega), by rw [S_len]; omega, ?_⟩
      walk_at "go"
      have e3 : decide ((NumText.digitsVal (c :: t) : Int) ≤ 65535) = decide ((c :: t).length ≤ 5 ∧ NumText.digitsVal (c :: t) ≤ 65535) := decide_eq_decide.mpr ⟨fun h => ⟨h5, by omega⟩, fun h => by omega⟩
      rw [e3]
      exact q
    · rw [decide_eq_false (show ¬ (((c :: t).length : Nat) : Int) ≤ 5 by omega)]
      walk_at "go"
      rw [decide_eq_false (show ¬ ((c :: t).length ≤ 5 ∧ NumText.digitsVal (c :: t) ≤ 65535) from fun h => h5 h.1)] at q
      exact q
theorem ok__kind_of (T : Txt K mg dA) (c__is_number : C8.Cal P w K mg base 1 "_is_number" spIsNum []) {f : Addr} {fd : FuncData} (F : Fun K "_kind_of" "_kind_of" s__kind_of f fd) : FnOk P w K mg base CX0 2 f fd ["word"] spKind := by
  refine F.ok sc__kind_of (fun vs H Q E h => ?_) (fun cdv A outer s H vs Q E hr h => ?_)
  · obtain ⟨c, t, rfl, _⟩ := h
    rfl
  obtain ⟨c, t, rfl, hl, q⟩ := h
  refine ⟨_, (pss_cons (ps_if (pt_cmpR op_in_sign (pe_ix ix_str (pv 0) pe_int (fun _ _ => rfl)) (C8.pe_gc (by rfl) T.g_LETTERS) rfl) (pss_cons (ps_if (pt_cmpR op_gt (pe_callB call_len_str (by rfl) T.b_len (by decide +kernel) (pa_cons (pv 0) pa_nil)) (C8.pe_gc (by rfl) T.g_LONGEST_NAME) (nomark _)) (pss_one (ps_ret pe_non)) pss_nil)
      (pss_one (ps_ret (pe_ifExp (pt_cmpR (kop_in_seq K) (pv 0) (C8.pe_gc (by rfl) T.g_KEYWORDS) rfl) pe_str pe_str)))) pss_nil)
      (pss_cons (ps_if (pt_cmpR op_in_sign (pe_ix ix_str (pv 0) pe_int (fun _ _ => rfl)) (C8.pe_gc (by rfl) T.g_DIGITS) rfl) (pss_one (ps_ret (pe_ifExp (pt_val (C8.pe_c c__is_number hr (by decide) (by rfl) (pa_cons (pv 0) pa_nil))) pe_str pe_non))) pss_nil)
      (pss_cons (ps_if (PW.pt (pw_or (pt_cmpR (kop_in_seq K) (pv 0) (C8.pe_gc (by rfl) T.g_DOUBLE_SYMBOLS) rfl) (pw_or1 (pt_cmpR op_in_sign (pv 0) (C8.pe_gc (by rfl) T.g_SINGLE_SYMBOLS) rfl)))) (pss_one (ps_ret pe_str)) pss_nil)
      (pss_one (ps_ret pe_non))))), ?_⟩
  rw [show (L2.start ["word"] [.str (S ((c :: t).take (tokLen (c :: t))))] : L2.St) = [some (.str (S ((c :: t).take (tokLen (c :: t)))))] from rfl]
  try simp only [WL.cxK]
  have h1 := tokLen_pos c t
  have h2 := tokLen_le c t
  obtain ⟨w, hw, hwl⟩ : ∃ w, (c :: t).take (tokLen (c :: t)) = c :: w ∧ w.length + 1 = tokLen (c :: t) := by
    obtain ⟨m, hm⟩ : ∃ m, tokLen (c :: t) = m + 1 := ⟨tokLen (c :: t) - 1, by omega⟩
    refine ⟨t.take m, by rw [hm, List.take_succ_cons], ?_⟩
    rw [List.length_take, hm, Nat.min_eq_left]
    rw [List.length_cons] at h2; omega
  have hdig : c ∈ DIG → c ∉ LET → NumText.AllDigits (c :: w) := fun e2 e1 x hx => by
    rw [← hw] at hx
    have : (c :: t).take (tokLen (c :: t)) = (c :: t).takeWhile (fun x => decide (x ∈ DIG)) := by
      unfold tokLen
      simp only [e1, e2, if_true, if_false]
      exact take_tw _ _
    rw [this] at hx
    have hm := of_decide_eq_true (mem_tw hx)
    unfold DIG at hm
    obtain ⟨y, hy, rfl⟩ := List.mem_map.mp hm
    have := List.mem_range.mp hy
    omega
  have hs2 : c ∉ LET → c ∉ DIG → ((c :: t).take 2 ∈ DBL ↔ c :: w ∈ DBL) ∧ ((c :: t).take 2 ∉ DBL → w = []) := fun e1 e2 => by
    have ht : tokLen (c :: t) = if (c :: t).take 2 ∈ DBL then 2 else 1 := by
      unfold tokLen
      simp only [e1, e2, if_false]
    by_cases hb : (c :: t).take 2 ∈ DBL
    · rw [if_pos hb] at ht
      rw [ht] at hw
      exact ⟨⟨fun _ => by rw [← hw]; exact hb, fun _ => hb⟩, fun h => absurd hb h⟩
    · rw [if_neg hb] at ht
      have hw0 : w = [] := List.eq_nil_of_length_eq_zero (by omega)
      exact ⟨⟨fun h => absurd h hb, fun h => by
        rw [hw0] at h
        exact absurd ((show ∀ d ∈ DBL, d.length = 2 by decide) _ h) (by simp)⟩, fun _ => hw0⟩
  unfold kd at q
  dsimp only at q
  rw [hw] at q ⊢
  rw [← hwl] at q
  have hsz : (S (c :: w)).length ≤ sizeLine := by rw [S_len]; exact sz_le (by rw [List.length_cons] at h2 ⊢; omega)
  have hc : (S (c :: w)).cps.toList[0]? = some c := rfl
  walk_at "go"
  refine g_ixS hsz (at_z (j := 0) rfl hc) ?_
  walk_at "go"
  rw [lit_let]
  refine g_ite (fun e => ?_) (fun e => ?_)
  · have e : c ∈ LET := e
    simp only [e, if_true] at q
    walk_at "go"
    rw [S_len]
    by_cases h16 : 16 < w.length + 1
    · rw [decide_eq_true (show (16 : Int) < ((c :: w).length : Nat) by rw [List.length_cons]; omega)]
      rw [if_pos h16] at q
      walk_at "go"
      exact q
    · rw [decide_eq_false (show ¬ (16 : Int) < ((c :: w).length : Nat) by rw [List.length_cons]; omega)]
      rw [if_neg h16] at q
      walk_at "go"
      refine g_inT (T.t_KEYWORDS _) kw_lit ?_
      walk_at "go"
      refine g_ite (fun e3 => ?_) (fun e3 => ?_)
      · rw [if_pos e3] at q
        walk_at "go"
        exact q
      · rw [if_neg e3] at q
        walk_at "go"
        exact q
  have e : c ∉ LET := e
  simp only [e, if_false] at q
  walk_at "go"
  refine g_ixS hsz (at_z (j := 0) rfl hc) ?_
  walk_at "go"
  rw [lit_dig]
  refine g_ite (fun e2 => ?_) (fun e2 => ?_)
  · have e2 : c ∈ DIG := e2
    simp only [e2, if_true] at q
    walk_at "go"
    refine ⟨c, w, rfl, hdig e2 e, by rw [List.length_cons] at h2; omega, ?_⟩
    walk_at "go"
    refine g_iteB (fun e3 => ?_) (fun e3 => ?_)
    · rw [e3] at q
      walk_at "go"
      exact q
    · rw [e3] at q
      walk_at "go"
      exact q
  have e2 : c ∉ DIG := e2
  simp only [e2, if_false] at q
  obtain ⟨hb1, hb2⟩ := hs2 e e2
  walk_at "go"
  refine g_inT (T.t_DOUBLE_SYMBOLS _) dbl_lit ?_
  walk_at "go"
  refine g_ite (fun e3 => ?_) (fun e3 => ?_)
  · rw [if_pos (hb1.mpr e3)] at q
    walk_at "go"
    exact q
  · have hnb : ¬ (c :: t).take 2 ∈ DBL := fun h => e3 (hb1.mp h)
    rw [if_neg hnb] at q
    have := hb2 hnb
    subst this
    walk_at "go"
    rw [lit_sgl]
    refine g_ite (fun e4 => ?_) (fun e4 => ?_)
    · have e4 : c ∈ SGL := e4
      rw [if_pos e4] at q
      walk_at "go"
      exact q
    · have e4 : c ∉ SGL := e4
      rw [if_neg e4] at q
      walk_at "go"
      exact q
theorem ok__law_number_is_good (T : Txt K mg dA)  {f : Addr} {fd : FuncData} (F : Fun K "_law_number_is_good" "_law_number_is_good" s__law_number_is_good f fd) : FnOk P w K mg base CX0 1 f fd ["word"] spNumGood := by
  refine F.ok sc__law_number_is_good (fun vs H Q E h => ?_) (fun cdv A outer s H vs Q E hr h => ?_)
  · obtain ⟨c, t, rfl, _⟩ := h
    rfl
  obtain ⟨c, t, rfl, hd, hl, q⟩ := h
  refine ⟨_, (pss_cons (ps_if (PW.pt (pw_or (PW.pt (pw_and (pt_cmpR op_gt (pe_callB call_len_str (by rfl) T.b_len (by decide +kernel) (pa_cons (pv 0) pa_nil)) pe_int (nomark _)) (pw_and1 (pt_cmpR op_eq (pe_ix ix_str (pv 0) pe_int (fun _ _ => rfl)) pe_str (nomark _))))) (pw_or1 (pt_cmpR op_gt (pe_callB call_len_str (by rfl) T.b_len (by decide +kernel) (pa_cons (pv 0) pa_nil)) pe_int (nomark _))))) (pss_one (ps_ret pe_bl)) pss_nil)
      (pss_one (ps_ret (pe_cmpR op_le (pe_callTy call_int_str (by rfl) T.b_int (by decide +kernel) (pa_cons (pv 0) pa_nil)) pe_int (nomark _))))), ?_⟩
  rw [show (L2.start ["word"] [.str (S (c :: t))] : L2.St) = [some (.str (S (c :: t)))] from rfl]
  try simp only [WL.cxK]
  have hsz : (S (c :: t)).length ≤ sizeLine := by rw [S_len]; exact sz_le (by simp; omega)
  have hc : (S (c :: t)).cps.toList[0]? = some c := rfl
  unfold goodNum at q
  have h48 : ∀ x : Nat, V.str (⟨#[x]⟩ : Str) = V.str (Str.ofString "0") ↔ x = 48 := fun x => ⟨fun h => by
    have e1 : S [x] = S [48] := V.str.inj h
    exact (List.cons.inj (S_inj e1)).1, fun h => by rw [h]; rfl⟩
  walk_at "go"
  rw [S_len]
  by_cases hc48 : c = 48
  · subst hc48
    simp only [if_true] at q
    by_cases ht : t = []
    · subst ht
      rw [decide_eq_false (show ¬ (1 : Int) < (([48] : List Nat).length : Nat) by decide)]
      walk_at "go"
      rw [S_len, decide_eq_false (show ¬ (5 : Int) < (([48] : List Nat).length : Nat) by decide)]
      walk_at "go"
      refine ⟨_, NumText.digitsVal [48], rfl, PySem.intText_digits (x := S [48]) hd (List.cons_ne_nil _ _) (by rw [S_len]; simp), by rw [S_len]; simp, ?_⟩
      walk_at "go"
      exact q
    · rw [decide_eq_true (show (1 : Int) < ((48 :: t : List Nat).length : Nat) by
        have : t.length ≠ 0 := fun h => ht (List.eq_nil_of_length_eq_zero h)
        rw [List.length_cons]; omega)]
      walk_at "go"
      refine g_ixS hsz (at_z (j := 0) rfl hc) ?_
      walk_at "go"
      rw [decide_eq_true ((h48 48).mpr rfl)]
      walk_at "go"
      rw [decide_eq_false ht] at q
      exact q
  · simp only [hc48, if_false] at q
    by_cases h5 : (c :: t).length ≤ 5
    · have e3 : decide ((NumText.digitsVal (c :: t) : Int) ≤ 65535) = decide ((c :: t).length ≤ 5 ∧ NumText.digitsVal (c :: t) ≤ 65535) := decide_eq_decide.mpr ⟨fun h => ⟨h5, by omega⟩, fun h => by omega⟩
      refine g_ite (fun e => ?_) (fun e => ?_)
      · walk_at "go"
        refine g_ixS hsz (at_z (j := 0) rfl hc) ?_
        walk_at "go"
        rw [decide_eq_false (show ¬ V.str (⟨#[c]⟩ : Str) = V.str (Str.ofString "0") from fun h => hc48 ((h48 c).mp h))]
        walk_at "go"
        rw [S_len, decide_eq_false (show ¬ (5 : Int) < ((c :: t).length : Nat) by omega)]
        walk_at "go"
        refine ⟨_, NumText.digitsVal (c :: t), rfl, PySem.intText_digits (x := S (c :: t)) hd (List.cons_ne_nil _ _) (by rw [S_len]; omega), by rw [S_len]; omega, ?_⟩
        walk_at "go"
        rw [e3]
        exact q
      · walk_at "go"
        rw [S_len, decide_eq_false (show ¬ (5 : Int) < ((c :: t).length : Nat) by omega)]
        walk_at "go"
        refine ⟨_, NumText.digitsVal (c :: t), rfl, PySem.intText_digits (x := S (c :: t)) hd (List.cons_ne_nil _ _) (by rw [S_len]; omega), by rw [S_len]; omega, ?_⟩
        walk_at "go"
        rw [e3]
        exact q
    · rw [decide_eq_false (show ¬ ((c :: t).length ≤ 5 ∧ NumText.digitsVal (c :: t) ≤ 65535) from fun h => h5 h.1)] at q
      rw [decide_eq_true (show (1 : Int) < ((c :: t).length : Nat) by omega)]
      walk_at "go"
      refine g_ixS hsz (at_z (j := 0) rfl hc) ?_
      walk_at "go"
      rw [decide_eq_false (show ¬ V.str (⟨#[c]⟩ : Str) = V.str (Str.ofString "0") from fun h => hc48 ((h48 c).mp h))]
      walk_at "go"
      rw [S_len, decide_eq_true (show (5 : Int) < ((c :: t).length : Nat) by omega)]
      walk_at "go"
      exact q
end
end K01
set_option Elab.async false
set_option linter.all false
set_option maxRecDepth 100000
set_option maxHeartbeats 4000000
namespace K01
open PySem PySem.Spec PyProof.Rows L2 WL SX
local macro_rules | `(tactic| walk_at "lk") => `(tactic| first
  | exact upd_same
  | assumption
  | (rw [upd_ne (by assumption)]; first | exact upd_same | assumption | (rw [upd_ne (by assumption)]; first | exact upd_same | assumption | (rw [upd_ne (by assumption)]; first | exact upd_same | assumption))))
local macro_rules | `(tactic| walk_at "go1") => `(tactic| first
  | (with_reducible refine g_seq ?_)
  | (with_reducible refine g_asg ?_)
  | (with_reducible refine g_name ?_)
  | (with_reducible refine g_sub ?_)
  | ((with_reducible refine' g_var ?gv ?_); (case gv => exact rfl))
  | (with_reducible refine g_c ?_)
  | (with_reducible refine g_op ?_)
  | (with_reducible refine g_un ?_)
  | (with_reducible refine g_I0 ?_)
  | ((with_reducible refine g_I ?gc ?_); (case gc => first | assumption | decide | (show (0 : Int) < _; omega) | exact Or.inr ⟨by omega, by omega⟩ | exact Or.inl ⟨by omega, by omega⟩ | exact ⟨by omega, by omega⟩))
  | (with_reducible refine iteT ?_)
  | (with_reducible refine iteF ?_)
  | (with_reducible refine iteNT ?_)
  | (with_reducible refine iteNF ?_)
  | (with_reducible refine g_andV ?_)
  | (with_reducible refine g_orV ?_)
  | ((with_reducible refine' g_lenS (by assumption) ?_))
  | ((with_reducible refine' g_lenS (SqL.of (by walk_at "lk")) ?_))
  | (with_reducible refine g_U ?_)
  | ((with_reducible refine g_eq ?gs ?_); (case gs => rfl))
  | ((with_reducible refine g_ne ?gs ?_); (case gs => rfl))
  | (with_reducible refine g_drop ?_)
  | (with_reducible refine g_ret ?_)
  | (with_reducible refine g_next ?_)
  | (with_reducible refine g_ifS ?_)
  | (with_reducible refine g_ifE ?_)
  | (with_reducible refine g_test ?_)
  | (with_reducible refine g_tb ?_)
  | (with_reducible refine g_bl ?_)
  | (with_reducible refine g_not ?_)
  | (with_reducible refine g_and ?_)
  | (with_reducible refine g_or ?_)
  | (with_reducible refine g_nil ?_)
  | (with_reducible refine g_cons ?_)
  | (with_reducible refine g_cb ?_)
  | (with_reducible refine g_call ?_)
  | (with_reducible refine g_int ?_)
  | (with_reducible refine g_two ?_)
  | ((with_reducible refine g_lenStr ?gz ?_); (case gz => first | assumption | exact sz_le (by omega)))
  | (with_reducible refine g_m1 ?_)
  | (with_reducible refine g_isS ?_)
  | (with_reducible refine g_nn ?_)
  | (with_reducible refine g_yes ?_)
  | (with_reducible refine g_for ?_)
  | (with_reducible refine g_ckw ?_)
  | (with_reducible refine g_chain ?_)
  | (with_reducible refine g_gcons ?_)
  | (with_reducible refine g_gnil ?_)
  | (with_reducible refine g_notV ?_)
  | (with_reducible refine g_iZip ?_)
  | (with_reducible refine g_lc ?_)
  | (with_reducible refine g_lc2 ?_)
  | (with_reducible refine g_iList ?_)
  | (with_reducible refine g_iRng1 ?_)
  | (with_reducible refine g_iRng2 ?_)
  | (with_reducible refine g_sl ?_)
  | (with_reducible refine g_noPart ?_)
  | (with_reducible refine g_part ?_)
  | (with_reducible refine g_ex1 ?_)
  | (with_reducible refine g_bm ?_)
  | ((with_reducible refine' g_tyL (by walk_at "lk") ?_))
  | ((with_reducible refine' g_aug ?gv ?_); (case gv => exact rfl))
  | (with_reducible refine g_ipI ?_)
  | (with_reducible refine g_turn ?_)
  | (with_reducible refine g_brk ?_)
  | (with_reducible refine g_cont ?_)
  | (with_reducible refine g_sign ?_)
  | (with_reducible refine g_lst ?_)
  | (with_reducible refine g_tup ?_)
  | ((with_reducible refine' g_ixL (by assumption) ?ga ?_); (case ga => assumption))
  | ((with_reducible refine' g_ixL (SqL.of (by walk_at "lk")) ?ga ?_); (case ga => first | exact rfl | assumption))
  | ((with_reducible refine' g_ixT (SqT.of (by walk_at "lk")) ?ga ?_); (case ga => first | exact rfl | assumption))
  | ((with_reducible refine' g_lenT (SqT.of (by walk_at "lk")) ?_))
  | ((with_reducible refine' g_isiS (b := true) ?ga ?_); (case ga => decide +kernel))
  | ((with_reducible refine' g_isiS (b := false) ?ga ?_); (case ga => decide +kernel))
  | ((with_reducible refine' g_isiI (b := true) ?ga ?_); (case ga => decide +kernel))
  | ((with_reducible refine' g_isiI (b := false) ?ga ?_); (case ga => decide +kernel))
  | ((with_reducible refine' g_setL2 ?ga ?gb ?_); (case ga => exact rfl); (case gb => exact rfl))
  | ((with_reducible refine' g_setL (by walk_at "lk") ?ga ?gb ?_); (case ga => exact rfl); (case gb => exact rfl)))
local macro_rules | `(tactic| walk_at "go") => `(tactic| ((repeat walk_at "go1"); try dsimp only [List.set, List.cons_append, List.nil_append]))
structure Bg (x1 x2 x3 x4 : Int) (k : Nat) : Prop where
  a : 0 ≤ x1
  b : 0 ≤ x2
  c : 0 ≤ x3
  c' : x3 < 2147483647
  d : 0 ≤ x4
  d' : x4 ≤ k
def Bag (c b : Addr) (k : Nat) (H : Hp) : Prop := ∃ (cells : List Int) (x1 x2 x3 x4 : Int), H b = some (.lst [.ref c, .int x1, .int x2, .int x3, .int x4]) ∧ H c = some (.lst (cells.map V.int)) ∧ Bg x1 x2 x3 x4 k
theorem Bag.put {c b p : Addr} {k : Nat} {H : Hp} {o : HO} (h : Bag c b k H) (nb : p ≠ b) (nc : p ≠ c) : Bag c b k (upd H p o) := by
  obtain ⟨cells, x1, x2, x3, x4, hb, hc, h1⟩ := h
  exact ⟨cells, x1, x2, x3, x4, by rw [upd_ne nb.symm]; exact hb, by rw [upd_ne nc.symm]; exact hc, h1⟩
theorem Bag.nb {c b p : Addr} {k : Nat} {H : Hp} (h : Bag c b k H) (np : H p = none) : p ≠ b ∧ p ≠ c := by
  obtain ⟨cells, x1, x2, x3, x4, hb, hc, h1⟩ := h
  exact ⟨(ne_of_none hb np).symm, (ne_of_none hc np).symm⟩
theorem Bag.new {c b p : Addr} {k : Nat} {H : Hp} {o : HO} (h : Bag c b k H) (np : H p = none) : Bag c b k (upd H p o) := h.put (h.nb np).1 (h.nb np).2
theorem Bag.same {c b : Addr} {k : Nat} {H H' : Hp} (h : Bag c b k H) (s : Same H H') : Bag c b k H' := by
  obtain ⟨cells, x1, x2, x3, x4, hb, hc, h1⟩ := h
  exact ⟨cells, x1, x2, x3, x4, s _ _ hb, s _ _ hc, h1⟩
theorem Bag.mono {c b : Addr} {k j : Nat} {H : Hp} (h : Bag c b k H) (hk : k ≤ j) : Bag c b j H := by
  obtain ⟨cells, x1, x2, x3, x4, hb, hc, ⟨a1, a2, a3, a4, a5, a6⟩⟩ := h
  exact ⟨cells, x1, x2, x3, x4, hb, hc, ⟨a1, a2, a3, a4, a5, by omega⟩⟩
def spBag (K : PySem.W.Frag) : Sp := fun vs H Q _ => ∃ (a : Addr) (ns : List Int), vs = [.ref a] ∧ SqL K H a (ns.map V.int) ∧ ns.length ≤ 63 ∧ ∀ c b H', H b = none → H c = none → Same H H' → Bag c b 0 H' → Q (.ref b) H'
def spDraw : Sp := fun vs H Q _ => ∃ (b c : Addr) (k : Nat) (m : Int), vs = [.ref b, .int m] ∧ Bag c b k H ∧ k ≤ 100000 ∧ 1 ≤ m ∧ m ≤ 1000000 ∧ ∀ d H', 0 ≤ d → d < m → Kp b H H' → Bag c b (k + 1) H' → Q (.int d) H'
theorem g_draw {b c : Addr} {k : Nat} {m : Int} {H : Hp} {Q : VK} {E : XK} (hB : Bag c b k H) (hk : k ≤ 100000) (h1 : 1 ≤ m) (h2 : m ≤ 1000000) (q : ∀ d H', 0 ≤ d → d < m → Kp b H H' → Bag c b (k + 1) H' → Q (.int d) H') : spDraw [.ref b, .int m] H Q E := ⟨b, c, k, m, rfl, hB, hk, h1, h2, q⟩
section
variable {P : Program} {w : World} {K : PySem.W.Frag} {mg : Str → Option Value} {base : Heap} {dA : Nat → Addr}
theorem ok__law_bag (T : Txt K mg dA)  {f : Addr} {fd : FuncData} (F : Fun K "_law_bag" "_law_bag" s__law_bag f fd) : FnOk P w K mg base CX0 1 f fd ["script"] (spBag K) := by
  refine F.ok sc__law_bag (fun vs H Q E h => ?_) (fun cdv A outer s H vs Q E hr h => ?_)
  · obtain ⟨a, ns, rfl, _⟩ := h
    rfl
  obtain ⟨a, ns, rfl, hS, hl, q⟩ := h
  refine ⟨_, (pss_one (ps_ret (pe_lst (pa_cons (pe_lc (own := [("cell", 1)]) rfl sc__law_bag.nd (kpi_list K (pe_slice (ksl_list K) (pv 0) po_none (po_some pe_int))) (blkOk_by (own := [("cell", 1)]) (N := ["script", "cell"]) (sc := defScope s__law_bag) (by decide +kernel)) (fun _ _ _ _ _ => (pg_name (i := 1) sc__law_bag.nd rfl (.inl rfl))) (fun _ _ _ _ _ => pts_nil) (fun _ _ _ _ _ => (pe_callTy call_int1 (by rfl) T.b_int (by decide +kernel) (pa_cons (pv 1) pa_nil)))) (pa_cons pe_int (pa_cons pe_int (pa_cons pe_int (pa_cons pe_int pa_nil)))))))), ?_⟩
  rw [show (L2.start ["script", "cell"] [.ref a] : L2.St) = [some (.ref a), none] from rfl]
  try simp only [WL.cxK]
  walk_at "go"
  refine g_slL hS (cut_to _ 63) fun sl nsl => ?_
  rw [List.take_of_length_le (by rw [List.length_map]; exact hl)]
  have s1 : Same H (upd H sl (.lst (ns.map V.int))) := same_new nsl
  refine f_lcMap (xs := ns.map V.int) (SqL.of upd_same) (by rw [List.length_map]; omega) (fun x => x) (fun _ => rfl) (fun i x H' Q' hx s2 hq => ?_) (fun D nD => ?_)
  · obtain ⟨n, hn, rfl⟩ := map_at hx
    walk_at "go"
    exact hq
  have hid : (ns.map V.int).map (fun x => x) = ns.map V.int := List.map_id _
  rw [hid]
  have s2 := s1.trans (same_new (o := .lst (ns.map V.int)) nD)
  walk_at "go"
  refine ⟨sz_le (n := 5) (by decide), fun b nb => ?_⟩
  have hD : (upd (upd H sl (.lst (ns.map V.int))) D (.lst (ns.map V.int))) D = some (.lst (ns.map V.int)) := upd_same
  have nDb : D ≠ b := ne_of_none hD nb
  exact q D b _ (s2.free nb) (s1.free nD) (s2.trans (same_new nb)) ⟨ns, 0, 0, 96, 0, upd_same, by rw [upd_ne nDb]; exact hD, ⟨by decide, by decide, by decide, by decide, by decide, by decide⟩⟩
theorem ok__law_draw (T : Txt K mg dA)  {f : Addr} {fd : FuncData} (F : Fun K "_law_draw" "_law_draw" s__law_draw f fd) : FnOk P w K mg base CX0 1 f fd ["bag", "size"] spDraw := by
  refine F.ok sc__law_draw (fun vs H Q E h => ?_) (fun cdv A outer s H vs Q E hr h => ?_)
  · obtain ⟨b, c, k, m, rfl, _⟩ := h
    rfl
  obtain ⟨b, c, k, m, rfl, ⟨cells, x1, x2, x3, x4, hb, hc, ⟨a1, a2, a3, a4, a5, a6⟩⟩, hk, hm1, hm2, q⟩ := h
  refine ⟨_, (Evl.pss_cut (ps_if (PW.pt (pw_and (pt_cmpR op_lt (pe_ix (kix_list K) (pv 0) pe_int (fun _ _ => rfl)) pe_int (nomark _)) (pw_and (pt_cmpR op_eq (pe_op op_mod (pe_callTy call_int1 (by rfl) T.b_int (by decide +kernel) (pa_cons (pe_ix (kix_list K) (pv 0) pe_int (fun _ _ => rfl)) pa_nil)) pe_int) pe_int (nomark _)) (pw_and1 (pt_cmpR op_lt (pe_ix (kix_list K) (pv 0) pe_int (fun _ _ => rfl)) (pe_callB (kcall_len_seq K) (by rfl) T.b_len (by decide +kernel) (pa_cons (pe_ix (kix_list K) (pv 0) pe_int (fun _ _ => rfl)) pa_nil)) (nomark _)))))) (pss_cons (ps_set (i := 2) sc__law_draw.nd rfl (.inl rfl) (pe_ix (kix_list K) (pe_ix (kix_list K) (pv 0) pe_int (fun _ _ => rfl)) (pe_ix (kix_list K) (pv 0) pe_int (fun _ _ => rfl)) (fun _ _ => rfl)))
      (pss_cons (ps_asg (pe_op op_add (pe_ix (kix_list K) (pv 0) pe_int (fun _ _ => rfl)) pe_int) (pg_sub (pv 0) pe_int set_list))
      (pss_cons (ps_if (pt_cmpR op_ge (pv 2) (pe_op op_pow pe_int pe_int) (nomark _)) (pss_one (ps_asg (pe_op op_mod (pe_callTy call_int1 (by rfl) T.b_int (by decide +kernel) (pa_cons (pv 2) pa_nil)) (pe_op op_powW (pe_op op_pow pe_int pe_int) pe_int)) (pg_sub (pv 0) pe_int set_list))) pss_nil)
      (pss_one (ps_asg (pe_op op_mod (pe_callTy call_int1 (by rfl) T.b_int (by decide +kernel) (pa_cons (pe_op op_add (pe_op op_mul (pe_ix (kix_list K) (pv 0) pe_int (fun _ _ => rfl)) pe_int) (pe_op op_mod (pe_callTy call_int1 (by rfl) T.b_int (by decide +kernel) (pa_cons (pv 2) pa_nil)) pe_int)) pa_nil)) pe_int) (pg_sub (pv 0) pe_int set_list)))))) pss_nil)
      (pss_cons (ps_if (pt_cmpR op_gt (pe_ix (kix_list K) (pv 0) pe_int (fun _ _ => rfl)) pe_int (nomark _)) (pss_cons (ps_set (i := 3) sc__law_draw.nd rfl (.inl rfl) (pe_op op_mod (pe_callTy call_int1 (by rfl) T.b_int (by decide +kernel) (pa_cons (pe_ix (kix_list K) (pv 0) pe_int (fun _ _ => rfl)) pa_nil)) (pv 1)))
      (pss_cons (ps_asg (pe_op op_fdiv (pe_ix (kix_list K) (pv 0) pe_int (fun _ _ => rfl)) (pv 1)) (pg_sub (pv 0) pe_int set_list))
      (pss_one (ps_ret (pv 3))))) pss_nil)
      (pss_cons (ps_asg (pe_op op_add (pe_ix (kix_list K) (pv 0) pe_int (fun _ _ => rfl)) pe_int) (pg_sub (pv 0) pe_int set_list))
      (pss_cons (ps_set (i := 4) sc__law_draw.nd rfl (.inl rfl) (pe_op op_mod (pe_callTy call_int1 (by rfl) T.b_int (by decide +kernel) (pa_cons (pe_op op_add (pe_op op_pow (pe_op op_add (pe_ix (kix_list K) (pv 0) pe_int (fun _ _ => rfl)) (pe_op op_mul (pe_ix (kix_list K) (pv 0) pe_int (fun _ _ => rfl)) pe_int)) pe_int) (pe_op op_mul (pe_ix (kix_list K) (pv 0) pe_int (fun _ _ => rfl)) pe_int)) pa_nil)) pe_int))
      (pss_cons (ps_set (i := 5) sc__law_draw.nd rfl (.inl rfl) (pe_op op_mod (pe_callTy call_int1 (by rfl) T.b_int (by decide +kernel) (pa_cons (pe_op op_mul (pe_op op_add (pv 4) pe_int) (pe_op op_add (pe_op op_add (pe_op op_fdiv (pv 4) pe_int) (pe_ix (kix_list K) (pv 0) pe_int (fun _ _ => rfl))) pe_int)) pa_nil)) pe_int))
      (pss_one (ps_ret (pe_op op_mod (pe_callTy call_int1 (by rfl) T.b_int (by decide +kernel) (pa_cons (pe_op op_fdiv (pv 5) pe_int) pa_nil)) (pv 1))))))))), ?_⟩
  rw [show (L2.start ["bag", "size", "cell", "got", "first", "second"] [.ref b, .int m] : L2.St) = [some (.ref b), some (.int m), none, none, none, none] from rfl]
  try simp only [WL.cxK]
  have nbc : b ≠ c := fun e => by
    rw [e, hc] at hb
    cases cells with
    | nil => cases hb
    | cons z l => cases hb
  refine ⟨fun σ' H' => ∃ (y : Option V) (x1 x2 x3 x4 : Int), σ' = [some (.ref b), some (.int m), y, none, none, none] ∧ H' b = some (.lst [.ref c, .int x1, .int x2, .int x3, .int x4]) ∧ H' c = some (.lst (cells.map V.int)) ∧ Bg x1 x2 x3 x4 k ∧ Kp b H H', ?_, fun σ' H' hmm => ?_⟩
  · have stay : ∀ y, ∃ (y' : Option V) (z1 z2 z3 z4 : Int), ([some (.ref b), some (.int m), y, none, none, none] : L2.St) = [some (.ref b), some (.int m), y', none, none, none] ∧ H b = some (.lst [.ref c, .int z1, .int z2, .int z3, .int z4]) ∧ H c = some (.lst (cells.map V.int)) ∧ Bg z1 z2 z3 z4 k ∧ Kp b H H := fun y => ⟨y, _, _, _, _, rfl, hb, hc, ⟨a1, a2, a3, a4, a5, a6⟩, Kp.refl H⟩
    walk_at "go"
    refine g_ite (fun e1 => ?_) (fun e1 => ?_)
    · walk_at "go"
      refine g_iteI (fun e2 => ?_) (fun e2 => ?_)
      · walk_at "go"
        rw [List.length_map]
        refine g_ite (fun e3 => ?_) (fun e3 => ?_)
        · have hj : x1.toNat < cells.length := by omega
          have hcell : (cells.map V.int)[x1.toNat]? = some (.int cells[x1.toNat]) := by rw [List.getElem?_map, List.getElem?_eq_getElem hj]; rfl
          generalize cells[x1.toNat] = cell at hcell
          walk_at "go"
          refine g_ixL (SqL.of hc) (at_z (j := x1.toNat) (by omega) hcell) ?_
          walk_at "go"
          have hP : CPowW 10 60 := by unfold CPowW; decide +kernel
          have hP2 : CPowW (10 ^ Int.toNat 60) 10 := by unfold CPowW; decide +kernel
          have hpos : (0 : Int) < (10 ^ Int.toNat 60) ^ Int.toNat 10 := by decide +kernel
          refine g_ite (fun e4 => ?_) (fun e4 => ?_)
          · walk_at "go"
            refine ⟨_, _, _, _, _, rfl, upd_same, by rw [upd_ne nbc.symm]; exact hc, ⟨by omega, Int.emod_nonneg _ (by omega), Int.emod_nonneg _ (by omega), Int.emod_lt_of_pos _ (by omega), a5, a6⟩, (Kp.refl H).set⟩
          · walk_at "go"
            refine ⟨_, _, _, _, _, rfl, upd_same, by rw [upd_ne nbc.symm]; exact hc, ⟨by omega, a2, Int.emod_nonneg _ (by omega), Int.emod_lt_of_pos _ (by omega), a5, a6⟩, (Kp.refl H).set⟩
        · walk_at "go"
          exact stay _
      · walk_at "go"
        exact stay _
    · walk_at "go"
      exact stay _
  clear hb hc a1 a2 a3 a4 a5 a6 x1 x2 x3 x4
  obtain ⟨y, x1, x2, x3, x4, rfl, hb, hc, ⟨a1, a2, a3, a4, a5, a6⟩, kp⟩ := hmm
  walk_at "go"
  refine g_ite (fun e1 => ?_) (fun e1 => ?_)
  · walk_at "go"
    exact q _ _ (Int.emod_nonneg _ (by omega)) (Int.emod_lt_of_pos _ (by omega)) kp.set ⟨cells, _, _, _, _, upd_same, by rw [upd_ne nbc.symm]; exact hc, ⟨a1, Int.ediv_nonneg a2 (by omega), a3, a4, a5, by omega⟩⟩
  walk_at "go"
  have hf0 : 0 ≤ (((x3 + (x4 + 1) * 7919) ^ Int.toNat 2 + (x4 + 1) * 48271) % 2147483647) := Int.emod_nonneg _ (by omega)
  have hf1 : (((x3 + (x4 + 1) * 7919) ^ Int.toNat 2 + (x4 + 1) * 48271) % 2147483647) < 2147483647 := Int.emod_lt_of_pos _ (by omega)
  have hfin : ∀ z : Int, 0 ≤ z % m ∧ z % m < m := fun z => ⟨Int.emod_nonneg _ (by omega), Int.emod_lt_of_pos _ (by omega)⟩
  exact q _ _ (hfin _).1 (hfin _).2 kp.set ⟨cells, _, _, _, _, upd_same, by rw [upd_ne nbc.symm]; exact hc, ⟨a1, a2, a3, a4, by omega, by omega⟩⟩
theorem ok__written (T : Txt K mg dA)  {f : Addr} {fd : FuncData} (F : Fun K "_written" "_written" s__written f fd) : FnOk P w K mg base CX0 1 f fd ["number"] spWritten := by
  refine F.ok sc__written (fun vs H Q E h => ?_) (fun cdv A outer s H vs Q E hr h => ?_)
  · obtain ⟨i, rfl, _⟩ := h
    rfl
  obtain ⟨i, rfl, q⟩ := h
  refine ⟨_, (pss_cons (ps_if (PW.pt (pw_and (pt_val (pe_callB (kcall_isi K) (by rfl) T.b_isinstance (by decide +kernel) (pa_cons (pv 0) (pa_cons (pe_bltn (v := .ty "int") (by rfl) T.b_int (by decide +kernel) rfl) pa_nil)))) (pw_and1 (pt_not (pt_chain op_lt op_lt (pe_un un_neg (C8.pe_gc (by rfl) T.g_LARGE)) (pv 0) (C8.pe_gc (by rfl) T.g_LARGE)))))) (pss_one (ps_ret pe_str)) pss_nil)
      (pss_one (ps_ret (pe_callTy call_str_int (by rfl) T.b_str (by decide +kernel) (pa_cons (pv 0) pa_nil))))), ?_⟩
  rw [show (L2.start ["number"] [.int i] : L2.St) = [some (.int i)] from rfl]
  try simp only [WL.cxK]
  have big : Q (.str (Str.ofString "a large number")) H := q _ (by decide +kernel)
  walk_at "go"
  refine g_ite (fun e1 => ?_) (fun e1 => ?_)
  · walk_at "go"
    refine g_iteN (fun e2 => ?_) (fun e2 => ?_)
    · walk_at "go"
      exact big
    · walk_at "go"
      have hl : i.natAbs.log2 < 1920 := by
        by_cases hz : i.natAbs = 0
        · rw [hz]; decide
        · exact Nat.lt_trans ((Nat.log2_lt hz (k := 60)).mpr (by omega)) (by decide)
      refine ⟨i, rfl, hl, ?_⟩
      walk_at "go"
      exact q _ (WExc.num_len hl)
  · walk_at "go"
    exact big
end
end K01
set_option Elab.async false
set_option linter.all false
set_option maxRecDepth 100000
set_option maxHeartbeats 4000000
namespace K01
open PySem PySem.Spec PyProof.Rows L2 WL SX
local macro_rules | `(tactic| walk_at "lk") => `(tactic| first
  | exact upd_same
  | assumption
  | (rw [upd_ne (by assumption)]; first | exact upd_same | assumption | (rw [upd_ne (by assumption)]; first | exact upd_same | assumption | (rw [upd_ne (by assumption)]; first | exact upd_same | assumption))))
local macro_rules | `(tactic| walk_at "go1") => `(tactic| first
  | (with_reducible refine g_seq ?_)
  | (with_reducible refine g_asg ?_)
  | (with_reducible refine g_name ?_)
  | (with_reducible refine g_sub ?_)
  | ((with_reducible refine' g_var ?gv ?_); (case gv => exact rfl))
  | (with_reducible refine g_c ?_)
  | (with_reducible refine g_op ?_)
  | (with_reducible refine g_un ?_)
  | (with_reducible refine g_I0 ?_)
  | ((with_reducible refine g_I ?gc ?_); (case gc => first | assumption | decide | (show (0 : Int) < _; omega) | exact Or.inr ⟨by omega, by omega⟩ | exact Or.inl ⟨by omega, by omega⟩ | exact ⟨by omega, by omega⟩))
  | (with_reducible refine iteT ?_)
  | (with_reducible refine iteF ?_)
  | (with_reducible refine iteNT ?_)
  | (with_reducible refine iteNF ?_)
  | (with_reducible refine g_andV ?_)
  | (with_reducible refine g_orV ?_)
  | ((with_reducible refine' g_lenS (by assumption) ?_))
  | ((with_reducible refine' g_lenS (SqL.of (by walk_at "lk")) ?_))
  | (with_reducible refine g_U ?_)
  | ((with_reducible refine g_eq ?gs ?_); (case gs => rfl))
  | ((with_reducible refine g_ne ?gs ?_); (case gs => rfl))
  | (with_reducible refine g_drop ?_)
  | (with_reducible refine g_ret ?_)
  | (with_reducible refine g_next ?_)
  | (with_reducible refine g_ifS ?_)
  | (with_reducible refine g_ifE ?_)
  | (with_reducible refine g_test ?_)
  | (with_reducible refine g_tb ?_)
  | (with_reducible refine g_bl ?_)
  | (with_reducible refine g_not ?_)
  | (with_reducible refine g_and ?_)
  | (with_reducible refine g_or ?_)
  | (with_reducible refine g_nil ?_)
  | (with_reducible refine g_cons ?_)
  | (with_reducible refine g_cb ?_)
  | (with_reducible refine g_call ?_)
  | (with_reducible refine g_int ?_)
  | (with_reducible refine g_two ?_)
  | ((with_reducible refine g_lenStr ?gz ?_); (case gz => first | assumption | exact sz_le (by omega)))
  | (with_reducible refine g_m1 ?_)
  | (with_reducible refine g_isS ?_)
  | (with_reducible refine g_nn ?_)
  | (with_reducible refine g_yes ?_)
  | (with_reducible refine g_for ?_)
  | (with_reducible refine g_ckw ?_)
  | (with_reducible refine g_chain ?_)
  | (with_reducible refine g_gcons ?_)
  | (with_reducible refine g_gnil ?_)
  | (with_reducible refine g_notV ?_)
  | (with_reducible refine g_iZip ?_)
  | (with_reducible refine g_lc ?_)
  | (with_reducible refine g_lc2 ?_)
  | (with_reducible refine g_iList ?_)
  | (with_reducible refine g_iRng1 ?_)
  | (with_reducible refine g_iRng2 ?_)
  | (with_reducible refine g_sl ?_)
  | (with_reducible refine g_noPart ?_)
  | (with_reducible refine g_part ?_)
  | (with_reducible refine g_ex1 ?_)
  | (with_reducible refine g_bm ?_)
  | ((with_reducible refine' g_tyL (by walk_at "lk") ?_))
  | ((with_reducible refine' g_aug ?gv ?_); (case gv => exact rfl))
  | (with_reducible refine g_ipI ?_)
  | (with_reducible refine g_turn ?_)
  | (with_reducible refine g_brk ?_)
  | (with_reducible refine g_cont ?_)
  | (with_reducible refine g_sign ?_)
  | (with_reducible refine g_lst ?_)
  | (with_reducible refine g_tup ?_)
  | ((with_reducible refine' g_ixL (by assumption) ?ga ?_); (case ga => assumption))
  | ((with_reducible refine' g_ixL (SqL.of (by walk_at "lk")) ?ga ?_); (case ga => first | exact rfl | assumption))
  | ((with_reducible refine' g_ixT (SqT.of (by walk_at "lk")) ?ga ?_); (case ga => first | exact rfl | assumption))
  | ((with_reducible refine' g_lenT (SqT.of (by walk_at "lk")) ?_))
  | ((with_reducible refine' g_isiS (b := true) ?ga ?_); (case ga => decide +kernel))
  | ((with_reducible refine' g_isiS (b := false) ?ga ?_); (case ga => decide +kernel))
  | ((with_reducible refine' g_isiI (b := true) ?ga ?_); (case ga => decide +kernel))
  | ((with_reducible refine' g_isiI (b := false) ?ga ?_); (case ga => decide +kernel))
  | ((with_reducible refine' g_setL2 ?ga ?gb ?_); (case ga => exact rfl); (case gb => exact rfl))
  | ((with_reducible refine' g_setL (by walk_at "lk") ?ga ?gb ?_); (case ga => exact rfl); (case gb => exact rfl)))
local macro_rules | `(tactic| walk_at "go") => `(tactic| ((repeat walk_at "go1"); try dsimp only [List.set, List.cons_append, List.nil_append]))
def spKws : Sp := fun vs H Q _ => vs = [] ∧ ∀ p H', H p = none → Same H H' → H' p = some (.lst (KWs.map fun x => V.str (S x))) → Q (.ref p) H'
def spSyms : Sp := fun vs H Q _ => vs = [] ∧ ∀ p H', H p = none → Same H H' → H' p = some (.lst (SYMS.map fun x => V.str (S x))) → Q (.ref p) H'
def spSigns : Sp := fun vs H Q _ => vs = [] ∧ ∀ x : Str, 1 ≤ x.length → x.length ≤ 200 → Q (.str x) H
def spChars : Sp := fun vs H Q _ => ∃ (b c : Addr) (k m : Nat) (x : Str), vs = [.ref b, .str x, .int m] ∧ Bag c b k H ∧ k ≤ 90000 ∧ 1 ≤ x.length ∧ x.length ≤ 200 ∧ m ≤ 41 ∧ ∀ (l : List Nat) H', l.length = m → Kp b H H' → Bag c b (k + 41) H' → Q (.str (S l)) H'
def spOdd : Sp := fun vs H Q _ => ∃ (b c : Addr) (k : Nat), vs = [.ref b] ∧ Bag c b k H ∧ k ≤ 80000 ∧ ∀ (l : List Nat) H', l.length ≤ 31 → Kp b H H' → Bag c b (k + 90) H' → Q (.str (S l)) H'
def spGood : Sp := fun vs H Q _ => ∃ (b c : Addr) (k : Nat) (sh : Bool), vs = [.ref b, .bl sh] ∧ Bag c b k H ∧ k ≤ 80000 ∧ ∀ (l : List Nat) H', l.length ≤ 17 → Kp b H H' → Bag c b (k + 90) H' → Q (.str (S l)) H'
def spPieces : Sp := fun vs H Q _ => ∃ (b c : Addr) (k m : Nat) (o : Int) (sh : Bool), vs = [.ref b, .int m, .int o, .bl sh] ∧ Bag c b k H ∧ k ≤ 1000 ∧ m ≤ 43 ∧ ∀ (l : List Nat) H', l.length ≤ 5000 → Kp b H H' → Bag c b (k + 20000) H' → Q (.str (S l)) H'
def spLine : Sp := fun vs H Q _ => ∃ (b c : Addr) (k : Nat), vs = [.ref b] ∧ Bag c b k H ∧ k ≤ 900 ∧ ∀ (l : List Nat) H', l.length ≤ 100 → Kp b H H' → Bag c b (k + 20010) H' → Q (.str (S l)) H'
theorem cat1 (a : List Nat) (c : Nat) : S a ++ S [c] = S (a ++ [c]) := S_cat a [c]
theorem mul_sp (n : Nat) : Txt.mul (Str.ofString " ") (n : Int) = S (List.replicate n 32) := by
  rw [show Str.ofString " " = (⟨#[32]⟩ : Str) by decide +kernel, mul_one_sign]
  rfl
theorem len_L (x : Str) : x.length = x.cps.toList.length := by simp [Str.length]
theorem syms_len : ∀ w ∈ SYMS, w.length ≤ 2 := by decide
theorem kws_len : ∀ w ∈ KWs, w.length ≤ 8 := by decide
section
variable {K : PySem.W.Frag} {H : Hp} {Q : VK}
theorem g_split {x y : Str} {ys : List (List Nat)} (hb : (y.length == 0) = false) (hz : x.length + 2 ≤ sizeLine) (e : Txt.split x y = ys.map S) (h : ∀ p, H p = none → Q (.ref p) (upd H p (.lst (ys.map fun x => V.str (S x))))) :
    ∃ a b, V.str x = .str a ∧ [V.str y] = [.str b] ∧ (b.length == 0) = false ∧ a.length + 2 ≤ sizeLine ∧ rNewStrs (Txt.split a b) H Q :=
  ⟨x, y, rfl, rfl, hb, hz, fun p np => by rw [e, List.map_map]; exact h p np⟩
end
theorem kw_split : Txt.split (Str.ofString "module end in out wire reg mem use as each from to when always if then else within all") (Str.ofString " ") = (KWs.take 19).map S := by decide +kernel
theorem sym_split : Txt.split (Str.ofString "( ) [ ] { } , : . = <= == != < >= << >> + - * & | ^ ~ # @") (Str.ofString " ") = SYMS.map S := by decide +kernel
section
variable {P : Program} {w : World} {K : PySem.W.Frag} {mg : Str → Option Value} {base : Heap} {dA : Nat → Addr}
theorem ok__law_keywords (T : Txt K mg dA)  {f : Addr} {fd : FuncData} (F : Fun K "_law_keywords" "_law_keywords" s__law_keywords f fd) : FnOk P w K mg base CX0 1 f fd [] spKws := by
  refine F.ok sc__law_keywords (fun vs H Q E h => ?_) (fun cdv A outer s H vs Q E hr h => ?_)
  · obtain ⟨rfl, _⟩ := h
    rfl
  obtain ⟨rfl, q⟩ := h
  refine ⟨_, (pss_cons (ps_set (i := 0) sc__law_keywords.nd rfl (.inl rfl) pe_str)
      (pss_one (ps_ret (pe_op op_cat (pe_split (pv 0) pe_str) (pe_lst (pa_cons pe_str (pa_cons pe_str (pa_cons pe_str pa_nil)))))))), ?_⟩
  rw [show (L2.start ["words"] [] : L2.St) = [none] from rfl]
  try simp only [WL.cxK]
  walk_at "go"
  refine g_split (by decide +kernel) (Nat.le_trans (show _ ≤ 100 by decide +kernel) (sz_le (by decide))) kw_split fun l nl => ?_
  have s1 := same_new (o := .lst ((KWs.take 19).map fun x => V.str (S x))) nl
  walk_at "go"
  refine ⟨sz_le (n := 3) (by decide), fun l2 nl2 => ?_⟩
  have s2 := same_new (o := .lst [V.str (Str.ofString "any"), V.str (Str.ofString "odd"), V.str (Str.ofString "promise")]) nl2
  refine ⟨_, _, _, _, rfl, rfl, s2 _ _ upd_same, upd_same, sz_le (n := 22) (by decide +kernel), fun p np => ?_⟩
  refine q p _ ((s1.trans s2).free np) ((s1.trans s2).trans (same_new np)) ?_
  rw [upd_same]
  have e : [Str.ofString "any", Str.ofString "odd", Str.ofString "promise"] = (KWs.drop 19).map S := by decide +kernel
  have e2 := congrArg (List.map V.str) e
  rw [List.map_map] at e2
  refine congrArg (fun l => some (HO.lst l)) ?_
  rw [show [V.str (Str.ofString "any"), V.str (Str.ofString "odd"), V.str (Str.ofString "promise")] = (KWs.drop 19).map fun x => V.str (S x) from e2, ← List.map_append, List.take_append_drop]
theorem ok__law_symbols (T : Txt K mg dA)  {f : Addr} {fd : FuncData} (F : Fun K "_law_symbols" "_law_symbols" s__law_symbols f fd) : FnOk P w K mg base CX0 1 f fd [] spSyms := by
  refine F.ok sc__law_symbols (fun vs H Q E h => ?_) (fun cdv A outer s H vs Q E hr h => ?_)
  · obtain ⟨rfl, _⟩ := h
    rfl
  obtain ⟨rfl, q⟩ := h
  refine ⟨_, (pss_one (ps_ret (pe_split pe_str pe_str))), ?_⟩
  rw [show (L2.start [] [] : L2.St) = [] from rfl]
  try simp only [WL.cxK]
  walk_at "go"
  refine g_split (by decide +kernel) (Nat.le_trans (show _ ≤ 100 by decide +kernel) (sz_le (by decide))) sym_split fun l nl => ?_
  exact q l _ nl (same_new nl) upd_same
theorem ok__law_signs (T : Txt K mg dA)  {f : Addr} {fd : FuncData} (F : Fun K "_law_signs" "_law_signs" s__law_signs f fd) : FnOk P w K mg base CX0 1 f fd [] spSigns := by
  refine F.ok sc__law_signs (fun vs H Q E h => ?_) (fun cdv A outer s H vs Q E hr h => ?_)
  · obtain ⟨rfl, _⟩ := h
    rfl
  obtain ⟨rfl, q⟩ := h
  refine ⟨_, (pss_cons (ps_set (i := 0) sc__law_signs.nd rfl (.inl rfl) pe_str)
      (pss_one (ps_ret (pe_op op_add_str (pv 0) pe_str)))), ?_⟩
  rw [show (L2.start ["signs"] [] : L2.St) = [none] from rfl]
  try simp only [WL.cxK]
  walk_at "go"
  refine g_addS (Nat.le_trans (show _ ≤ 200 by decide +kernel) (sz_le (by decide))) ?_
  walk_at "go"
  exact q _ (by decide +kernel) (by decide +kernel)
theorem ok__law_chars (T : Txt K mg dA) (c__law_draw : C8.Cal P w K mg base 1 "_law_draw" spDraw []) {f : Addr} {fd : FuncData} (F : Fun K "_law_chars" "_law_chars" s__law_chars f fd) : FnOk P w K mg base CX0 2 f fd ["bag", "signs", "many"] spChars := by
  refine F.ok sc__law_chars (fun vs H Q E h => ?_) (fun cdv A outer s H vs Q E hr h => ?_)
  · obtain ⟨b, c, k, m, x, rfl, _⟩ := h
    rfl
  obtain ⟨b, c, k, m, x, rfl, hB, hk, hx1, hx2, hm, q⟩ := h
  refine ⟨_, (pss_cons (ps_set (i := 3) sc__law_chars.nd rfl (.inl rfl) pe_str)
      (pss_cons (ps_for PassesOwn.never rfl (pi_range1 (by rfl) T.b_range (pa_cons (pv 2) pa_nil)) (pg_name (i := 4) sc__law_chars.nd rfl (.inl rfl)) (pss_one (ps_set (i := 3) sc__law_chars.nd rfl (.inl rfl) (pe_op op_add_str (pv 3) (pe_ix ix_str (pv 1) (C8.pe_c c__law_draw hr (by decide) (by rfl) (pa_cons (pv 0) (pa_cons (pe_callB call_len_str (by rfl) T.b_len (by decide +kernel) (pa_cons (pv 1) pa_nil)) pa_nil))) (fun _ _ => rfl))))))
      (pss_one (ps_ret (pv 3))))), ?_⟩
  rw [show (L2.start ["bag", "signs", "many", "text", "k"] [.ref b, .str x, .int m] : L2.St) = [some (.ref b), some (.str x), some (.int m), none, none] from rfl]
  try simp only [WL.cxK]
  walk_at "go"
  refine f_rng1 (z := (m : Int)) (by omega) (by omega) (fun i σ' H' => ∃ (l : List Nat) (y : Option V), σ' = [some (.ref b), some (.str x), some (.int m), some (.str (S l)), y] ∧ l.length = i ∧ Kp b H H' ∧ Bag c b (k + i) H')
    ⟨[], none, rfl, rfl, Kp.refl H, hB⟩ (fun i σ' H' hi hP => ?_) (fun σ' H' hP => ?_)
  · obtain ⟨l, y, rfl, hl, k1, B1⟩ := hP
    have hxz : x.length ≤ sizeLine := sz_le (by omega)
    walk_at "go"
    refine g_draw B1 (by omega) (by omega) (by omega) fun d H2 d0 d1 k2 B2 => ?_
    have hd : d.toNat < x.cps.toList.length := by rw [← len_L]; omega
    refine g_ixS hxz (at_z (j := d.toNat) (by omega) (List.getElem?_eq_getElem hd)) ?_
    generalize x.cps.toList[d.toNat] = cc
    rw [show (⟨#[cc]⟩ : Str) = S [cc] from rfl]
    refine g_addS (by rw [S_len, S_len]; exact sz_le (by simp; omega)) ?_
    rw [S_cat]
    walk_at "go"
    exact ⟨l ++ [cc], _, rfl, by simp [hl], k1.trans k2, B2⟩
  · obtain ⟨l, y, rfl, hl, k1, B1⟩ := hP
    walk_at "go"
    exact q l H' (by omega) k1 (B1.mono (by omega))
theorem ok__law_odd (T : Txt K mg dA) (c__law_draw : C8.Cal P w K mg base 1 "_law_draw" spDraw []) (c__law_chars : C8.Cal P w K mg base 2 "_law_chars" spChars []) {f : Addr} {fd : FuncData} (F : Fun K "_law_odd" "_law_odd" s__law_odd f fd) : FnOk P w K mg base CX0 3 f fd ["bag"] spOdd := by
  refine F.ok sc__law_odd (fun vs H Q E h => ?_) (fun cdv A outer s H vs Q E hr h => ?_)
  · obtain ⟨b, c, k, rfl, _⟩ := h
    rfl
  obtain ⟨b, c, k, rfl, hB, hk, q⟩ := h
  refine ⟨_, (pss_cons (ps_set (i := 1) sc__law_odd.nd rfl (.inl rfl) (C8.pe_c c__law_draw hr (by decide) (by rfl) (pa_cons (pv 0) (pa_cons pe_int pa_nil))))
      (pss_cons (ps_if (pt_cmpR op_eq (pv 1) pe_int (nomark _)) (pss_one (ps_ret (C8.pe_c c__law_chars hr (by decide) (by rfl) (pa_cons (pv 0) (pa_cons pe_str (pa_cons (pe_op op_add pe_int (C8.pe_c c__law_draw hr (by decide) (by rfl) (pa_cons (pv 0) (pa_cons pe_int pa_nil)))) pa_nil)))))) pss_nil)
      (pss_cons (ps_if (pt_cmpR op_eq (pv 1) pe_int (nomark _)) (pss_one (ps_ret (pe_callTy call_str_int (by rfl) T.b_str (by decide +kernel) (pa_cons (pe_op op_add pe_int (C8.pe_c c__law_draw hr (by decide) (by rfl) (pa_cons (pv 0) (pa_cons pe_int pa_nil)))) pa_nil)))) pss_nil)
      (pss_cons (ps_if (pt_cmpR op_eq (pv 1) pe_int (nomark _)) (pss_cons (ps_set (i := 2) sc__law_odd.nd rfl (.inl rfl) (C8.pe_c c__law_chars hr (by decide) (by rfl) (pa_cons (pv 0) (pa_cons pe_str (pa_cons pe_int pa_nil)))))
      (pss_one (ps_ret (pe_op op_add_str (pv 2) (C8.pe_c c__law_chars hr (by decide) (by rfl) (pa_cons (pv 0) (pa_cons pe_str (pa_cons (pe_op op_add pe_int (C8.pe_c c__law_draw hr (by decide) (by rfl) (pa_cons (pv 0) (pa_cons pe_int pa_nil)))) pa_nil)))))))) pss_nil)
      (pss_cons (ps_if (pt_cmpR op_eq (pv 1) pe_int (nomark _)) (pss_one (ps_ret (pe_op op_add_str pe_str (C8.pe_c c__law_chars hr (by decide) (by rfl) (pa_cons (pv 0) (pa_cons pe_str (pa_cons (C8.pe_c c__law_draw hr (by decide) (by rfl) (pa_cons (pv 0) (pa_cons pe_int pa_nil))) pa_nil))))))) pss_nil)
      (pss_cons (ps_if (pt_cmpR op_eq (pv 1) pe_int (nomark _)) (pss_one (ps_ret (C8.pe_c c__law_chars hr (by decide) (by rfl) (pa_cons (pv 0) (pa_cons pe_str (pa_cons pe_int pa_nil)))))) pss_nil)
      (pss_one (ps_ret pe_str)))))))), ?_⟩
  rw [show (L2.start ["bag", "way", "word"] [.ref b] : L2.St) = [some (.ref b), none, none] from rfl]
  try simp only [WL.cxK]
  walk_at "go"
  refine g_draw hB (by omega) (by decide) (by decide) fun d H1 d0 d1 k1 B1 => ?_
  walk_at "go"
  refine g_iteI (fun e => ?_) (fun e => ?_)
  · walk_at "go"
    refine g_draw B1 (by omega) (by decide) (by decide) fun d2 H2 e0 e1 k2 B2 => ?_
    walk_at "go"
    exact ⟨b, c, k + 2, (1 + d2).toNat, _, by rw [show ((1 + d2).toNat : Int) = 1 + d2 by omega], B2, by omega, by decide +kernel, by decide +kernel, by omega, fun l H3 hl k3 B3 => q l H3 (by omega) ((k1.trans k2).trans k3) (B3.mono (by omega))⟩
  walk_at "go"
  refine g_iteI (fun e => ?_) (fun e => ?_)
  · walk_at "go"
    refine g_draw B1 (by omega) (by decide) (by decide) fun d2 H2 e0 e1 k2 B2 => ?_
    walk_at "go"
    obtain ⟨n, rfl⟩ : ∃ n : Nat, d2 = n := ⟨d2.toNat, by omega⟩
    refine ⟨_, rfl, log_small (by omega) (by omega), ?_⟩
    walk_at "go"
    rw [show (65530 : Int) + (n : Int) = ((65530 + n : Nat) : Int) by omega, num_S]
    exact q _ H2 (Nat.le_trans (TL.numL_len (k := 5) (by decide) (by omega)) (by decide)) (k1.trans k2) (B2.mono (by omega))
  walk_at "go"
  refine g_iteI (fun e => ?_) (fun e => ?_)
  · walk_at "go"
    refine ⟨b, c, k + 1, 1, _, rfl, B1, by omega, by decide +kernel, by decide +kernel, by decide, fun l1 H2 hl1 k2 B2 => ?_⟩
    walk_at "go"
    refine g_draw B2 (by omega) (by decide) (by decide) fun d2 H3 e0 e1 k3 B3 => ?_
    walk_at "go"
    refine ⟨b, c, k + 43, (13 + d2).toNat, _, by rw [show ((13 + d2).toNat : Int) = 13 + d2 by omega], B3.mono (by omega), by omega, by decide +kernel, by decide +kernel, by omega, fun l2 H4 hl2 k4 B4 => ?_⟩
    refine g_addS (by rw [S_len, S_len]; exact sz_le (by omega)) ?_
    rw [S_cat]
    walk_at "go"
    exact q _ H4 (by rw [List.length_append]; omega) (((k1.trans k2).trans k3).trans k4) (B4.mono (by omega))
  walk_at "go"
  refine g_iteI (fun e => ?_) (fun e => ?_)
  · walk_at "go"
    refine g_draw B1 (by omega) (by decide) (by decide) fun d2 H3 e0 e1 k3 B3 => ?_
    walk_at "go"
    refine ⟨b, c, k + 2, d2.toNat, _, by rw [show ((d2).toNat : Int) = d2 by omega], B3, by omega, by decide +kernel, by decide +kernel, by omega, fun l2 H4 hl2 k4 B4 => ?_⟩
    rw [show Str.ofString "0" = S [48] from rfl]
    refine g_addS (by rw [S_len, S_len]; exact sz_le (by simp; omega)) ?_
    rw [S_cat]
    walk_at "go"
    exact q _ H4 (by simp; omega) ((k1.trans k3).trans k4) (B4.mono (by omega))
  walk_at "go"
  refine g_iteI (fun e => ?_) (fun e => ?_)
  · walk_at "go"
    refine ⟨b, c, k + 1, 1, _, rfl, B1, by omega, by decide +kernel, by decide +kernel, by decide, fun l1 H2 hl1 k2 B2 => ?_⟩
    walk_at "go"
    exact q _ H2 (by omega) (k1.trans k2) (B2.mono (by omega))
  walk_at "go"
  exact q [45, 45] H1 (by decide) k1 (B1.mono (by omega))
theorem ok__law_good (T : Txt K mg dA) (c__law_draw : C8.Cal P w K mg base 1 "_law_draw" spDraw []) (c__law_chars : C8.Cal P w K mg base 2 "_law_chars" spChars []) (c__law_symbols : C8.Cal P w K mg base 1 "_law_symbols" spSyms []) (c__law_keywords : C8.Cal P w K mg base 1 "_law_keywords" spKws []) {f : Addr} {fd : FuncData} (F : Fun K "_law_good" "_law_good" s__law_good f fd) : FnOk P w K mg base CX0 3 f fd ["bag", "short"] spGood := by
  refine F.ok sc__law_good (fun vs H Q E h => ?_) (fun cdv A outer s H vs Q E hr h => ?_)
  · obtain ⟨b, c, k, sh, rfl, _⟩ := h
    rfl
  obtain ⟨b, c, k, sh, rfl, hB, hk, q⟩ := h
  refine ⟨_, (pss_cons (ps_set (i := 2) sc__law_good.nd rfl (.inl rfl) (C8.pe_c c__law_draw hr (by decide) (by rfl) (pa_cons (pv 0) (pa_cons pe_int pa_nil))))
      (pss_cons (ps_if (pt_cmpR op_gt (pv 2) pe_int (nomark _)) (pss_one (ps_ret (pe_ix (kix_list K) (my_c0 c__law_symbols hr (by decide) (by rfl)) (C8.pe_c c__law_draw hr (by decide) (by rfl) (pa_cons (pv 0) (pa_cons pe_int pa_nil))) (fun _ _ => rfl)))) pss_nil)
      (pss_cons (ps_if (PW.pt (pw_and (pt_val (pv 1)) (pw_and1 (pt_cmpR op_gt (pv 2) pe_int (nomark _))))) (pss_one (ps_ret (C8.pe_c c__law_chars hr (by decide) (by rfl) (pa_cons (pv 0) (pa_cons pe_str (pa_cons pe_int pa_nil)))))) pss_nil)
      (pss_cons (ps_if (pt_val (pv 1)) (pss_one (ps_ret (C8.pe_c c__law_chars hr (by decide) (by rfl) (pa_cons (pv 0) (pa_cons pe_str (pa_cons pe_int pa_nil)))))) pss_nil)
      (pss_cons (ps_if (pt_cmpR op_eq (pv 2) pe_int (nomark _)) (pss_one (ps_ret (pe_callTy call_str_int (by rfl) T.b_str (by decide +kernel) (pa_cons (C8.pe_c c__law_draw hr (by decide) (by rfl) (pa_cons (pv 0) (pa_cons pe_int pa_nil))) pa_nil)))) pss_nil)
      (pss_cons (ps_if (pt_cmpR op_eq (pv 2) pe_int (nomark _)) (pss_one (ps_ret (pe_ix (kix_list K) (my_c0 c__law_keywords hr (by decide) (by rfl)) (C8.pe_c c__law_draw hr (by decide) (by rfl) (pa_cons (pv 0) (pa_cons pe_int pa_nil))) (fun _ _ => rfl)))) pss_nil)
      (pss_cons (ps_set (i := 3) sc__law_good.nd rfl (.inl rfl) (C8.pe_c c__law_chars hr (by decide) (by rfl) (pa_cons (pv 0) (pa_cons pe_str (pa_cons pe_int pa_nil)))))
      (pss_one (ps_ret (pe_op op_add_str (pv 3) (C8.pe_c c__law_chars hr (by decide) (by rfl) (pa_cons (pv 0) (pa_cons pe_str (pa_cons (C8.pe_c c__law_draw hr (by decide) (by rfl) (pa_cons (pv 0) (pa_cons pe_int pa_nil))) pa_nil)))))))))))))), ?_⟩
  rw [show (L2.start ["bag", "short", "way", "word"] [.ref b, .bl sh] : L2.St) = [some (.ref b), some (.bl sh), none, none] from rfl]
  try simp only [WL.cxK]
  walk_at "go"
  refine g_draw hB (by omega) (by decide) (by decide) fun d H1 d0 d1 k1 B1 => ?_
  walk_at "go"
  refine g_ite (fun e => ?_) (fun e => ?_)
  · walk_at "go"
    refine ⟨rfl, fun p H2 np s2 hp => ?_⟩
    walk_at "go"
    refine g_draw (B1.same s2) (by omega) (by decide) (by decide) fun d2 H3 e0 e1 k3 B3 => ?_
    have hd : d2.toNat < SYMS.length := by rw [show SYMS.length = 26 by decide]; omega
    refine g_ixL (SqL.of (k3 _ _ hp (B1.nb np).1)) (at_z (j := d2.toNat) (by omega) (by rw [List.getElem?_map, List.getElem?_eq_getElem hd]; rfl)) ?_
    walk_at "go"
    exact q _ H3 (Nat.le_trans (syms_len _ (List.getElem_mem hd)) (by decide)) ((k1.trans (Kp.same s2)).trans k3) (B3.mono (by omega))
  have one : ∀ (x : Str), 1 ≤ x.length → x.length ≤ 200 → spChars [.ref b, .str x, .int 1] H1 Q E0 := fun x h1 h2 => ⟨b, c, k + 1, 1, x, rfl, B1, by omega, h1, h2, by decide, fun l H2 hl k2 B2 => q l H2 (by omega) (k1.trans k2) (B2.mono (by omega))⟩
  cases sh with
  | true =>
    walk_at "go"
    refine g_ite (fun e2 => ?_) (fun e2 => ?_)
    · walk_at "go"
      exact one _ (by decide +kernel) (by decide +kernel)
    · walk_at "go"
      exact one _ (by decide +kernel) (by decide +kernel)
  | false =>
    walk_at "go"
    refine g_iteI (fun e2 => ?_) (fun e2 => ?_)
    · walk_at "go"
      refine g_draw B1 (by omega) (by decide) (by decide) fun d2 H2 e0 e1 k2 B2 => ?_
      obtain ⟨n, rfl⟩ : ∃ n : Nat, d2 = n := ⟨d2.toNat, by omega⟩
      refine ⟨(n : Int), rfl, log_small (by omega) (by omega), ?_⟩
      walk_at "go"
      rw [num_S]
      exact q _ H2 (Nat.le_trans (TL.numL_len (k := 5) (by decide) (by omega)) (by decide)) (k1.trans k2) (B2.mono (by omega))
    walk_at "go"
    refine g_iteI (fun e3 => ?_) (fun e3 => ?_)
    · walk_at "go"
      refine ⟨rfl, fun p H2 np s2 hp => ?_⟩
      walk_at "go"
      refine g_draw (B1.same s2) (by omega) (by decide) (by decide) fun d2 H3 e0 e1 k3 B3 => ?_
      have hd : d2.toNat < KWs.length := by rw [show KWs.length = 22 by decide]; omega
      refine g_ixL (SqL.of (k3 _ _ hp (B1.nb np).1)) (at_z (j := d2.toNat) (by omega) (by rw [List.getElem?_map, List.getElem?_eq_getElem hd]; rfl)) ?_
      walk_at "go"
      exact q _ H3 (Nat.le_trans (kws_len _ (List.getElem_mem hd)) (by decide)) ((k1.trans (Kp.same s2)).trans k3) (B3.mono (by omega))
    walk_at "go"
    refine ⟨b, c, k + 1, 1, _, rfl, B1, by omega, by decide +kernel, by decide +kernel, by decide, fun l1 H2 hl1 k2 B2 => ?_⟩
    walk_at "go"
    refine g_draw B2 (by omega) (by decide) (by decide) fun d2 H3 e0 e1 k3 B3 => ?_
    walk_at "go"
    refine ⟨b, c, k + 43, d2.toNat, _, by rw [show ((d2).toNat : Int) = d2 by omega], B3.mono (by omega), by omega, by decide +kernel, by decide +kernel, by omega, fun l2 H4 hl2 k4 B4 => ?_⟩
    refine g_addS (by rw [S_len, S_len]; exact sz_le (by omega)) ?_
    rw [S_cat]
    walk_at "go"
    exact q _ H4 (by rw [List.length_append]; omega) (((k1.trans k2).trans k3).trans k4) (B4.mono (by omega))
end
end K01
set_option Elab.async false
set_option linter.all false
set_option maxRecDepth 100000
set_option maxHeartbeats 4000000
namespace K01
open PySem PySem.Spec PyProof.Rows L2 WL SX
local macro_rules | `(tactic| walk_at "lk") => `(tactic| first
  | exact upd_same
  | assumption
  | (rw [upd_ne (by assumption)]; first | exact upd_same | assumption | (rw [upd_ne (by assumption)]; first | exact upd_same | assumption | (rw [upd_ne (by assumption)]; first | exact upd_same | assumption))))
local macro_rules | `(tactic| walk_at "go1") => `(tactic| first
  | (with_reducible refine g_seq ?_)
  | (with_reducible refine g_asg ?_)
  | (with_reducible refine g_name ?_)
  | (with_reducible refine g_sub ?_)
  | ((with_reducible refine' g_var ?gv ?_); (case gv => exact rfl))
  | (with_reducible refine g_c ?_)
  | (with_reducible refine g_op ?_)
  | (with_reducible refine g_un ?_)
  | (with_reducible refine g_I0 ?_)
  | ((with_reducible refine g_I ?gc ?_); (case gc => first | assumption | decide | (show (0 : Int) < _; omega) | exact Or.inr ⟨by omega, by omega⟩ | exact Or.inl ⟨by omega, by omega⟩ | exact ⟨by omega, by omega⟩))
  | (with_reducible refine iteT ?_)
  | (with_reducible refine iteF ?_)
  | (with_reducible refine iteNT ?_)
  | (with_reducible refine iteNF ?_)
  | (with_reducible refine g_andV ?_)
  | (with_reducible refine g_orV ?_)
  | ((with_reducible refine' g_lenS (by assumption) ?_))
  | ((with_reducible refine' g_lenS (SqL.of (by walk_at "lk")) ?_))
  | (with_reducible refine g_U ?_)
  | ((with_reducible refine g_eq ?gs ?_); (case gs => rfl))
  | ((with_reducible refine g_ne ?gs ?_); (case gs => rfl))
  | (with_reducible refine g_drop ?_)
  | (with_reducible refine g_ret ?_)
  | (with_reducible refine g_next ?_)
  | (with_reducible refine g_ifS ?_)
  | (with_reducible refine g_ifE ?_)
  | (with_reducible refine g_test ?_)
  | (with_reducible refine g_tb ?_)
  | (with_reducible refine g_bl ?_)
  | (with_reducible refine g_not ?_)
  | (with_reducible refine g_and ?_)
  | (with_reducible refine g_or ?_)
  | (with_reducible refine g_nil ?_)
  | (with_reducible refine g_cons ?_)
  | (with_reducible refine g_cb ?_)
  | (with_reducible refine g_call ?_)
  | (with_reducible refine g_int ?_)
  | (with_reducible refine g_two ?_)
  | ((with_reducible refine g_lenStr ?gz ?_); (case gz => first | assumption | exact sz_le (by omega)))
  | (with_reducible refine g_m1 ?_)
  | (with_reducible refine g_isS ?_)
  | (with_reducible refine g_nn ?_)
  | (with_reducible refine g_yes ?_)
  | (with_reducible refine g_for ?_)
  | (with_reducible refine g_ckw ?_)
  | (with_reducible refine g_chain ?_)
  | (with_reducible refine g_gcons ?_)
  | (with_reducible refine g_gnil ?_)
  | (with_reducible refine g_notV ?_)
  | (with_reducible refine g_iZip ?_)
  | (with_reducible refine g_lc ?_)
  | (with_reducible refine g_lc2 ?_)
  | (with_reducible refine g_iList ?_)
  | (with_reducible refine g_iRng1 ?_)
  | (with_reducible refine g_iRng2 ?_)
  | (with_reducible refine g_sl ?_)
  | (with_reducible refine g_noPart ?_)
  | (with_reducible refine g_part ?_)
  | (with_reducible refine g_ex1 ?_)
  | (with_reducible refine g_bm ?_)
  | ((with_reducible refine' g_tyL (by walk_at "lk") ?_))
  | ((with_reducible refine' g_aug ?gv ?_); (case gv => exact rfl))
  | (with_reducible refine g_ipI ?_)
  | (with_reducible refine g_turn ?_)
  | (with_reducible refine g_brk ?_)
  | (with_reducible refine g_cont ?_)
  | (with_reducible refine g_sign ?_)
  | (with_reducible refine g_lst ?_)
  | (with_reducible refine g_tup ?_)
  | ((with_reducible refine' g_ixL (by assumption) ?ga ?_); (case ga => assumption))
  | ((with_reducible refine' g_ixL (SqL.of (by walk_at "lk")) ?ga ?_); (case ga => first | exact rfl | assumption))
  | ((with_reducible refine' g_ixT (SqT.of (by walk_at "lk")) ?ga ?_); (case ga => first | exact rfl | assumption))
  | ((with_reducible refine' g_lenT (SqT.of (by walk_at "lk")) ?_))
  | ((with_reducible refine' g_isiS (b := true) ?ga ?_); (case ga => decide +kernel))
  | ((with_reducible refine' g_isiS (b := false) ?ga ?_); (case ga => decide +kernel))
  | ((with_reducible refine' g_isiI (b := true) ?ga ?_); (case ga => decide +kernel))
  | ((with_reducible refine' g_isiI (b := false) ?ga ?_); (case ga => decide +kernel))
  | ((with_reducible refine' g_setL2 ?ga ?gb ?_); (case ga => exact rfl); (case gb => exact rfl))
  | ((with_reducible refine' g_setL (by walk_at "lk") ?ga ?gb ?_); (case ga => exact rfl); (case gb => exact rfl)))
local macro_rules | `(tactic| walk_at "go") => `(tactic| ((repeat walk_at "go1"); try dsimp only [List.set, List.cons_append, List.nil_append]))
section
variable {P : Program} {w : World} {K : PySem.W.Frag} {mg : Str → Option Value} {base : Heap} {dA : Nat → Addr}
theorem ok__law_pieces (T : Txt K mg dA) (c__law_draw : C8.Cal P w K mg base 1 "_law_draw" spDraw []) (c__law_good : C8.Cal P w K mg base 3 "_law_good" spGood []) (c__law_odd : C8.Cal P w K mg base 3 "_law_odd" spOdd []) {f : Addr} {fd : FuncData} (F : Fun K "_law_pieces" "_law_pieces" s__law_pieces f fd) : FnOk P w K mg base CX0 4 f fd ["bag", "many", "odd", "short"] spPieces := by
  refine F.ok sc__law_pieces (fun vs H Q E h => ?_) (fun cdv A outer s H vs Q E hr h => ?_)
  · obtain ⟨b, c, k, m, o, sh, rfl, _⟩ := h
    rfl
  obtain ⟨b, c, k, m, o, sh, rfl, hB, hk, hm, q⟩ := h
  refine ⟨_, (pss_cons (ps_set (i := 4) sc__law_pieces.nd rfl (.inl rfl) (C8.pe_c c__law_draw hr (by decide) (by rfl) (pa_cons (pv 0) (pa_cons (pe_op op_add (pv 1) pe_int) pa_nil))))
      (pss_cons (ps_set (i := 5) sc__law_pieces.nd rfl (.inl rfl) (C8.pe_c c__law_draw hr (by decide) (by rfl) (pa_cons (pv 0) (pa_cons (pe_op op_add (pv 1) pe_int) pa_nil))))
      (pss_cons (ps_set (i := 6) sc__law_pieces.nd rfl (.inl rfl) (pe_op op_mul_str pe_str (C8.pe_c c__law_draw hr (by decide) (by rfl) (pa_cons (pv 0) (pa_cons pe_int pa_nil)))))
      (Evl.pss_cut (ps_for PassesOwn.never rfl (pi_range1 (by rfl) T.b_range (pa_cons (pv 1) pa_nil)) (pg_name (i := 7) sc__law_pieces.nd rfl (.inl rfl)) (Evl.pss_cut (ps_if (PW.pt (pw_or (PW.pt (pw_and (pt_cmpR op_gt (pv 2) pe_int (nomark _)) (pw_and1 (pt_cmpR op_eq (pv 7) (pv 4) (nomark _))))) (pw_or1 (PW.pt (pw_and (pt_cmpR op_gt (pv 2) pe_int (nomark _)) (pw_and1 (pt_cmpR op_eq (pv 7) (pv 5) (nomark _)))))))) (pss_one (ps_set (i := 6) sc__law_pieces.nd rfl (.inl rfl) (pe_op op_add_str (pe_op op_add_str (pv 6) (C8.pe_c c__law_odd hr (by decide) (by rfl) (pa_cons (pv 0) pa_nil))) (pe_op op_mul_str pe_str (C8.pe_c c__law_draw hr (by decide) (by rfl) (pa_cons (pv 0) (pa_cons pe_int pa_nil))))))) pss_nil)
      (pss_cons (ps_set (i := 8) sc__law_pieces.nd rfl (.inl rfl) (C8.pe_c c__law_good hr (by decide) (by rfl) (pa_cons (pv 0) (pa_cons (pv 3) pa_nil))))
      (pss_cons (ps_set (i := 9) sc__law_pieces.nd rfl (.inl rfl) (C8.pe_c c__law_draw hr (by decide) (by rfl) (pa_cons (pv 0) (pa_cons pe_int pa_nil))))
      (Evl.pss_cut (ps_if (PW.pt (pw_and (pt_val (pv 3)) (pw_and1 (pt_cmpR op_gt (C8.pe_c c__law_draw hr (by decide) (by rfl) (pa_cons (pv 0) (pa_cons pe_int pa_nil))) pe_int (nomark _))))) (pss_one (ps_set (i := 9) sc__law_pieces.nd rfl (.inl rfl) pe_int)) pss_nil)
      (pss_one (ps_set (i := 6) sc__law_pieces.nd rfl (.inl rfl) (pe_op op_add_str (pe_op op_add_str (pv 6) (pv 8)) (pe_op op_mul_str pe_str (pv 9))))))))))
      (pss_cons (ps_if (PW.pt (pw_and (pt_cmpR op_gt (pv 2) pe_int (nomark _)) (pw_and1 (pt_cmpR op_eq (pv 4) (pv 1) (nomark _))))) (pss_one (ps_set (i := 6) sc__law_pieces.nd rfl (.inl rfl) (pe_op op_add_str (pv 6) (C8.pe_c c__law_odd hr (by decide) (by rfl) (pa_cons (pv 0) pa_nil))))) pss_nil)
      (pss_one (ps_ret (pv 6)))))))), ?_⟩
  rw [show (L2.start ["bag", "many", "odd", "short", "first", "second", "text", "k", "word", "gap"] [.ref b, .int m, .int o, .bl sh] : L2.St) = [some (.ref b), some (.int m), some (.int o), some (.bl sh), none, none, none, none, none, none] from rfl]
  try simp only [WL.cxK]
  walk_at "go"
  refine g_draw hB (by omega) (by omega) (by omega) fun f1 H1 _ _ k1 B1 => ?_
  walk_at "go"
  refine g_draw B1 (by omega) (by omega) (by omega) fun f2 H2 _ _ k2 B2 => ?_
  walk_at "go"
  refine g_draw B2 (by omega) (by decide) (by decide) fun d H3 d0 d1 k3 B3 => ?_
  refine g_mulS (by decide +kernel) (by omega) (by omega) ?_
  obtain ⟨lead, rfl⟩ : ∃ n : Nat, d = n := ⟨d.toNat, by omega⟩
  rw [mul_sp]
  walk_at "go"
  have k03 := (k1.trans k2).trans k3
  refine ⟨fun σ' H' => ∃ (l : List Nat) (y z u : Option V), σ' = [some (.ref b), some (.int m), some (.int o), some (.bl sh), some (.int f1), some (.int f2), some (.str (S l)), y, z, u] ∧ l.length ≤ 4000 ∧ Kp b H H' ∧ Bag c b (k + 19000) H', ?_, fun σ' H' hmm => ?_⟩
  · walk_at "go"
    refine f_rng1 (z := (m : Int)) (by omega) (by omega) (fun i σ' H' => ∃ (l : List Nat) (y z u : Option V), σ' = [some (.ref b), some (.int m), some (.int o), some (.bl sh), some (.int f1), some (.int f2), some (.str (S l)), y, z, u] ∧ l.length ≤ 10 + 60 * i ∧ Kp b H H' ∧ Bag c b (k + 3 + 250 * i) H')
      ⟨List.replicate lead 32, none, none, none, rfl, by rw [List.length_replicate]; omega, k03, B3⟩ (fun i σ' H' hi hP => ?_) (fun σ' H' hP => ?_)
    · obtain ⟨l, y, z, u, rfl, hl, k4, B4⟩ := hP
      have hi43 : i < 43 := by omega
      walk_at "go"
      refine ⟨fun σ' H' => ∃ l : List Nat, σ' = [some (.ref b), some (.int m), some (.int o), some (.bl sh), some (.int f1), some (.int f2), some (.str (S l)), some (.int i), z, u] ∧ l.length ≤ 45 + 60 * i ∧ Kp b H H' ∧ Bag c b (k + 3 + 250 * i + 120) H', ?_, fun σ' H' hmm => ?_⟩
      · have stay : ∃ l' : List Nat, ([some (.ref b), some (.int m), some (.int o), some (.bl sh), some (.int f1), some (.int f2), some (.str (S l)), some (.int i), z, u] : L2.St) = [some (.ref b), some (.int m), some (.int o), some (.bl sh), some (.int f1), some (.int f2), some (.str (S l')), some (.int i), z, u] ∧ l'.length ≤ 45 + 60 * i ∧ Kp b H H' ∧ Bag c b (k + 3 + 250 * i + 120) H' := ⟨l, rfl, by omega, k4, B4.mono (by omega)⟩
        walk_at "go"
        refine g_ite (fun e1 => ?_) (fun e1 => ?_)
        · walk_at "go"
          refine g_iteI (fun e2 => ?_) (fun e2 => ?_)
          · walk_at "go"
            refine ⟨b, c, _, rfl, B4, by omega, fun l1 H5 hl1 k5 B5 => ?_⟩
            refine g_addS (by rw [S_len, S_len]; exact sz_le (by omega)) ?_
            rw [S_cat]
            walk_at "go"
            refine g_draw B5 (by omega) (by decide) (by decide) fun d5 H6 e0 e1 k6 B6 => ?_
            obtain ⟨gp, rfl⟩ : ∃ n : Nat, d5 = n := ⟨d5.toNat, by omega⟩
            refine g_mulS (by decide +kernel) (by omega) (by omega) ?_
            rw [mul_sp]
            refine g_addS (by rw [S_len, S_len]; exact sz_le (by simp; omega)) ?_
            rw [S_cat]
            walk_at "go"
            exact ⟨_, rfl, by simp; omega, (k4.trans k5).trans k6, B6.mono (by omega)⟩
          · walk_at "go"
            refine g_ite (fun e3 => ?_) (fun e3 => ?_)
            · walk_at "go"
              refine g_iteI (fun e4 => ?_) (fun e4 => ?_)
              · walk_at "go"
                refine ⟨b, c, _, rfl, B4, by omega, fun l1 H5 hl1 k5 B5 => ?_⟩
                refine g_addS (by rw [S_len, S_len]; exact sz_le (by omega)) ?_
                rw [S_cat]
                walk_at "go"
                refine g_draw B5 (by omega) (by decide) (by decide) fun d5 H6 e0 e1 k6 B6 => ?_
                obtain ⟨gp, rfl⟩ : ∃ n : Nat, d5 = n := ⟨d5.toNat, by omega⟩
                refine g_mulS (by decide +kernel) (by omega) (by omega) ?_
                rw [mul_sp]
                refine g_addS (by rw [S_len, S_len]; exact sz_le (by simp; omega)) ?_
                rw [S_cat]
                walk_at "go"
                exact ⟨_, rfl, by simp; omega, (k4.trans k5).trans k6, B6.mono (by omega)⟩
              · walk_at "go"
                exact stay
            · walk_at "go"
              exact stay
        · walk_at "go"
          refine g_ite (fun e3 => ?_) (fun e3 => ?_)
          · walk_at "go"
            refine g_iteI (fun e4 => ?_) (fun e4 => ?_)
            · walk_at "go"
              refine ⟨b, c, _, rfl, B4, by omega, fun l1 H5 hl1 k5 B5 => ?_⟩
              refine g_addS (by rw [S_len, S_len]; exact sz_le (by omega)) ?_
              rw [S_cat]
              walk_at "go"
              refine g_draw B5 (by omega) (by decide) (by decide) fun d5 H6 e0 e1 k6 B6 => ?_
              obtain ⟨gp, rfl⟩ : ∃ n : Nat, d5 = n := ⟨d5.toNat, by omega⟩
              refine g_mulS (by decide +kernel) (by omega) (by omega) ?_
              rw [mul_sp]
              refine g_addS (by rw [S_len, S_len]; exact sz_le (by simp; omega)) ?_
              rw [S_cat]
              walk_at "go"
              exact ⟨_, rfl, by simp; omega, (k4.trans k5).trans k6, B6.mono (by omega)⟩
            · walk_at "go"
              exact stay
          · walk_at "go"
            exact stay
      clear hl k4 B4 l
      obtain ⟨l, rfl, hl, k4, B4⟩ := hmm
      walk_at "go"
      refine ⟨b, c, _, sh, rfl, B4, by omega, fun wd H5 hw k5 B5 => ?_⟩
      walk_at "go"
      refine g_draw B5 (by omega) (by decide) (by decide) fun gg H6 e0 e1 k6 B6 => ?_
      walk_at "go"
      refine ⟨fun σ' H' => ∃ g : Nat, σ' = [some (.ref b), some (.int m), some (.int o), some (.bl sh), some (.int f1), some (.int f2), some (.str (S l)), some (.int i), some (.str (S wd)), some (.int g)] ∧ g ≤ 1 ∧ Kp b H H' ∧ Bag c b (k + 3 + 250 * i + 220) H', ?_, fun σ' H' hmm => ?_⟩
      · have k46 := (k4.trans k5).trans k6
        walk_at "go"
        cases sh with
        | true =>
          walk_at "go"
          refine g_draw B6 (by omega) (by decide) (by decide) fun g2 H7 _ _ k7 B7 => ?_
          walk_at "go"
          refine g_ite (fun e => ?_) (fun e => ?_)
          · walk_at "go"
            exact ⟨1, rfl, by decide, k46.trans k7, B7.mono (by omega)⟩
          · walk_at "go"
            exact ⟨gg.toNat, by rw [show (gg.toNat : Int) = gg by omega], by omega, k46.trans k7, B7.mono (by omega)⟩
        | false =>
          walk_at "go"
          exact ⟨gg.toNat, by rw [show (gg.toNat : Int) = gg by omega], by omega, k46, B6.mono (by omega)⟩
      obtain ⟨g, rfl, hg, k7, B7⟩ := hmm
      walk_at "go"
      refine g_addS (by rw [S_len, S_len]; exact sz_le (by omega)) ?_
      rw [S_cat]
      walk_at "go"
      refine g_mulS (by decide +kernel) (by omega) (by omega) ?_
      rw [mul_sp]
      refine g_addS (by rw [S_len, S_len]; exact sz_le (by simp; omega)) ?_
      rw [S_cat]
      walk_at "go"
      exact ⟨_, _, _, _, rfl, by simp; omega, k7, B7.mono (by omega)⟩
    · obtain ⟨l, y, z, u, rfl, hl, k4, B4⟩ := hP
      walk_at "go"
      exact ⟨l, _, _, _, rfl, by omega, k4, B4.mono (by omega)⟩
  obtain ⟨l, y, z, u, rfl, hl, k4, B4⟩ := hmm
  walk_at "go"
  refine g_ite (fun e => ?_) (fun e => ?_)
  · walk_at "go"
    refine g_iteI (fun e2 => ?_) (fun e2 => ?_)
    · walk_at "go"
      refine ⟨b, c, _, rfl, B4, by omega, fun l1 H5 hl1 k5 B5 => ?_⟩
      refine g_addS (by rw [S_len, S_len]; exact sz_le (by omega)) ?_
      rw [S_cat]
      walk_at "go"
      exact q _ H5 (by simp; omega) (k4.trans k5) (B5.mono (by omega))
    · walk_at "go"
      exact q l H' (by omega) k4 (B4.mono (by omega))
  · walk_at "go"
    exact q l H' (by omega) k4 (B4.mono (by omega))
theorem ok__law_line (T : Txt K mg dA) (c__law_draw : C8.Cal P w K mg base 1 "_law_draw" spDraw []) (c__law_chars : C8.Cal P w K mg base 2 "_law_chars" spChars []) (c__law_pieces : C8.Cal P w K mg base 4 "_law_pieces" spPieces []) (c__law_signs : C8.Cal P w K mg base 1 "_law_signs" spSigns []) {f : Addr} {fd : FuncData} (F : Fun K "_law_line" "_law_line" s__law_line f fd) : FnOk P w K mg base CX0 5 f fd ["bag"] spLine := by
  refine F.ok sc__law_line (fun vs H Q E h => ?_) (fun cdv A outer s H vs Q E hr h => ?_)
  · obtain ⟨b, c, k, rfl, _⟩ := h
    rfl
  obtain ⟨b, c, k, rfl, hB, hk, q⟩ := h
  refine ⟨_, (pss_cons (ps_set (i := 1) sc__law_line.nd rfl (.inl rfl) (C8.pe_c c__law_draw hr (by decide) (by rfl) (pa_cons (pv 0) (pa_cons pe_int pa_nil))))
      (pss_cons (ps_if (pt_cmpR op_eq (pv 1) pe_int (nomark _)) (pss_one (ps_ret (C8.pe_c c__law_chars hr (by decide) (by rfl) (pa_cons (pv 0) (pa_cons (my_c0 c__law_signs hr (by decide) (by rfl)) (pa_cons (C8.pe_c c__law_draw hr (by decide) (by rfl) (pa_cons (pv 0) (pa_cons pe_int pa_nil))) pa_nil)))))) pss_nil)
      (pss_cons (ps_if (pt_cmpR op_eq (pv 1) pe_int (nomark _)) (pss_one (ps_ret (C8.pe_c c__law_chars hr (by decide) (by rfl) (pa_cons (pv 0) (pa_cons pe_str (pa_cons (C8.pe_c c__law_draw hr (by decide) (by rfl) (pa_cons (pv 0) (pa_cons pe_int pa_nil))) pa_nil)))))) pss_nil)
      (pss_cons (ps_if (pt_cmpR op_eq (pv 1) pe_int (nomark _)) (pss_cons (ps_set (i := 2) sc__law_line.nd rfl (.inl rfl) (C8.pe_c c__law_draw hr (by decide) (by rfl) (pa_cons (pv 0) (pa_cons pe_int pa_nil))))
      (pss_one (ps_ret (pe_slice sl_str (C8.pe_c c__law_pieces hr (by decide) (by rfl) (pa_cons (pv 0) (pa_cons (pe_op op_add pe_int (C8.pe_c c__law_draw hr (by decide) (by rfl) (pa_cons (pv 0) (pa_cons pe_int pa_nil)))) (pa_cons (pv 2) (pa_cons pe_bl pa_nil))))) po_none (po_some pe_int))))) pss_nil)
      (pss_cons (ps_set (i := 2) sc__law_line.nd rfl (.inl rfl) (C8.pe_c c__law_draw hr (by decide) (by rfl) (pa_cons (pv 0) (pa_cons pe_int pa_nil))))
      (pss_one (ps_ret (pe_slice sl_str (C8.pe_c c__law_pieces hr (by decide) (by rfl) (pa_cons (pv 0) (pa_cons (C8.pe_c c__law_draw hr (by decide) (by rfl) (pa_cons (pv 0) (pa_cons pe_int pa_nil))) (pa_cons (pv 2) (pa_cons pe_bl pa_nil))))) po_none (po_some pe_int))))))))), ?_⟩
  rw [show (L2.start ["bag", "way", "odd"] [.ref b] : L2.St) = [some (.ref b), none, none] from rfl]
  try simp only [WL.cxK]
  walk_at "go"
  refine g_draw hB (by omega) (by decide) (by decide) fun d H1 d0 d1 k1 B1 => ?_
  walk_at "go"
  refine g_iteI (fun e => ?_) (fun e => ?_)
  · walk_at "go"
    refine ⟨rfl, fun x hx1 hx2 => ?_⟩
    walk_at "go"
    refine g_draw B1 (by omega) (by decide) (by decide) fun d2 H2 e0 e1 k2 B2 => ?_
    walk_at "go"
    exact ⟨b, c, k + 2, d2.toNat, _, by rw [show ((d2).toNat : Int) = d2 by omega], B2, by omega, hx1, hx2, by omega, fun l2 H4 hl2 k4 B4 => q l2 H4 (by omega) ((k1.trans k2).trans k4) (B4.mono (by omega))⟩
  walk_at "go"
  refine g_iteI (fun e => ?_) (fun e => ?_)
  · walk_at "go"
    refine g_draw B1 (by omega) (by decide) (by decide) fun d2 H2 e0 e1 k2 B2 => ?_
    walk_at "go"
    exact ⟨b, c, k + 2, d2.toNat, _, by rw [show ((d2).toNat : Int) = d2 by omega], B2, by omega, by decide +kernel, by decide +kernel, by omega, fun l2 H4 hl2 k4 B4 => q l2 H4 (by omega) ((k1.trans k2).trans k4) (B4.mono (by omega))⟩
  have cut : ∀ (l : List Nat) (H4 : Hp), l.length ≤ 5000 → Kp b H1 H4 → Bag c b (k + 20010) H4 → rSlS (.str (S l)) none (some 100) H4 Q := fun l H4 hl k4 B4 =>
    g_slS (by rw [S_len]; exact sz_le (by omega)) (cutS_to l 100) (q _ H4 (by rw [List.length_take]; omega) (k1.trans k4) B4)
  walk_at "go"
  refine g_iteI (fun e => ?_) (fun e => ?_)
  · walk_at "go"
    refine g_draw B1 (by omega) (by decide) (by decide) fun od H2 o0 o1 k2 B2 => ?_
    walk_at "go"
    refine g_draw B2 (by omega) (by decide) (by decide) fun d2 H3 e0 e1 k3 B3 => ?_
    walk_at "go"
    refine ⟨b, c, k + 3, (38 + d2).toNat, od, true, by rw [show ((38 + d2).toNat : Int) = 38 + d2 by omega], B3, by omega, by omega, fun l H4 hl k4 B4 => ?_⟩
    walk_at "go"
    exact cut l H4 hl ((k2.trans k3).trans k4) (B4.mono (by omega))
  walk_at "go"
  refine g_draw B1 (by omega) (by decide) (by decide) fun od H2 o0 o1 k2 B2 => ?_
  walk_at "go"
  refine g_draw B2 (by omega) (by decide) (by decide) fun d2 H3 e0 e1 k3 B3 => ?_
  walk_at "go"
  refine ⟨b, c, k + 3, d2.toNat, od, false, by rw [show ((d2).toNat : Int) = d2 by omega], B3, by omega, by omega, fun l H4 hl k4 B4 => ?_⟩
  walk_at "go"
  exact cut l H4 hl ((k2.trans k3).trans k4) (B4.mono (by omega))
end
end K01
set_option Elab.async false
set_option linter.all false
set_option maxRecDepth 100000
set_option maxHeartbeats 4000000
namespace K01
open PySem PySem.Spec PyProof.Rows L2 WL SX
local macro_rules | `(tactic| walk_at "lk") => `(tactic| first
  | exact upd_same
  | assumption
  | (rw [upd_ne (by assumption)]; first | exact upd_same | assumption | (rw [upd_ne (by assumption)]; first | exact upd_same | assumption | (rw [upd_ne (by assumption)]; first | exact upd_same | assumption))))
local macro_rules | `(tactic| walk_at "go1") => `(tactic| first
  | (with_reducible refine g_seq ?_)
  | (with_reducible refine g_asg ?_)
  | (with_reducible refine g_name ?_)
  | (with_reducible refine g_sub ?_)
  | ((with_reducible refine' g_var ?gv ?_); (case gv => exact rfl))
  | (with_reducible refine g_c ?_)
  | (with_reducible refine g_op ?_)
  | (with_reducible refine g_un ?_)
  | (with_reducible refine g_I0 ?_)
  | ((with_reducible refine g_I ?gc ?_); (case gc => first | assumption | decide | (show (0 : Int) < _; omega) | exact Or.inr ⟨by omega, by omega⟩ | exact Or.inl ⟨by omega, by omega⟩ | exact ⟨by omega, by omega⟩))
  | (with_reducible refine iteT ?_)
  | (with_reducible refine iteF ?_)
  | (with_reducible refine iteNT ?_)
  | (with_reducible refine iteNF ?_)
  | (with_reducible refine g_andV ?_)
  | (with_reducible refine g_orV ?_)
  | ((with_reducible refine' g_lenS (by assumption) ?_))
  | ((with_reducible refine' g_lenS (SqL.of (by walk_at "lk")) ?_))
  | (with_reducible refine g_U ?_)
  | ((with_reducible refine g_eq ?gs ?_); (case gs => rfl))
  | ((with_reducible refine g_ne ?gs ?_); (case gs => rfl))
  | (with_reducible refine g_drop ?_)
  | (with_reducible refine g_ret ?_)
  | (with_reducible refine g_next ?_)
  | (with_reducible refine g_ifS ?_)
  | (with_reducible refine g_ifE ?_)
  | (with_reducible refine g_test ?_)
  | (with_reducible refine g_tb ?_)
  | (with_reducible refine g_bl ?_)
  | (with_reducible refine g_not ?_)
  | (with_reducible refine g_and ?_)
  | (with_reducible refine g_or ?_)
  | (with_reducible refine g_nil ?_)
  | (with_reducible refine g_cons ?_)
  | (with_reducible refine g_cb ?_)
  | (with_reducible refine g_call ?_)
  | (with_reducible refine g_int ?_)
  | (with_reducible refine g_two ?_)
  | ((with_reducible refine g_lenStr ?gz ?_); (case gz => first | assumption | exact sz_le (by omega)))
  | (with_reducible refine g_m1 ?_)
  | (with_reducible refine g_isS ?_)
  | (with_reducible refine g_nn ?_)
  | (with_reducible refine g_yes ?_)
  | (with_reducible refine g_for ?_)
  | (with_reducible refine g_ckw ?_)
  | (with_reducible refine g_chain ?_)
  | (with_reducible refine g_gcons ?_)
  | (with_reducible refine g_gnil ?_)
  | (with_reducible refine g_notV ?_)
  | (with_reducible refine g_iZip ?_)
  | (with_reducible refine g_lc ?_)
  | (with_reducible refine g_lc2 ?_)
  | (with_reducible refine g_iList ?_)
  | (with_reducible refine g_iRng1 ?_)
  | (with_reducible refine g_iRng2 ?_)
  | (with_reducible refine g_sl ?_)
  | (with_reducible refine g_noPart ?_)
  | (with_reducible refine g_part ?_)
  | (with_reducible refine g_ex1 ?_)
  | (with_reducible refine g_bm ?_)
  | ((with_reducible refine' g_tyL (by walk_at "lk") ?_))
  | ((with_reducible refine' g_aug ?gv ?_); (case gv => exact rfl))
  | (with_reducible refine g_ipI ?_)
  | (with_reducible refine g_turn ?_)
  | (with_reducible refine g_brk ?_)
  | (with_reducible refine g_cont ?_)
  | (with_reducible refine g_sign ?_)
  | (with_reducible refine g_lst ?_)
  | (with_reducible refine g_tup ?_)
  | ((with_reducible refine' g_ixL (by assumption) ?ga ?_); (case ga => assumption))
  | ((with_reducible refine' g_ixL (SqL.of (by walk_at "lk")) ?ga ?_); (case ga => first | exact rfl | assumption))
  | ((with_reducible refine' g_ixT (SqT.of (by walk_at "lk")) ?ga ?_); (case ga => first | exact rfl | assumption))
  | ((with_reducible refine' g_lenT (SqT.of (by walk_at "lk")) ?_))
  | ((with_reducible refine' g_isiS (b := true) ?ga ?_); (case ga => decide +kernel))
  | ((with_reducible refine' g_isiS (b := false) ?ga ?_); (case ga => decide +kernel))
  | ((with_reducible refine' g_isiI (b := true) ?ga ?_); (case ga => decide +kernel))
  | ((with_reducible refine' g_isiI (b := false) ?ga ?_); (case ga => decide +kernel))
  | ((with_reducible refine' g_setL2 ?ga ?gb ?_); (case ga => exact rfl); (case gb => exact rfl))
  | ((with_reducible refine' g_setL (by walk_at "lk") ?ga ?gb ?_); (case ga => exact rfl); (case gb => exact rfl)))
local macro_rules | `(tactic| walk_at "go") => `(tactic| ((repeat walk_at "go1"); try dsimp only [List.set, List.cons_append, List.nil_append]))
def spEnd : Sp := fun vs H Q _ => ∃ (l g : List Nat) (a : Nat), vs = [.str (S l), .int a, .str (S g)] ∧ a < l.length ∧ l.length ≤ 200 ∧ l.getD a 0 ∈ g ∧ Q (.int ((a + ((l.drop a).takeWhile fun x => decide (x ∈ g)).length : Nat))) H
/-- the rows of tokens, each in its tuple -/
def Rows' (H : Hp) (p : Addr) (ts : List Tok') : Prop := ∃ ps : List (Addr × Tok'), H p = some (.lst (ps.map fun r => V.ref r.1)) ∧ ps.map (·.2) = ts ∧ ∀ r ∈ ps, H r.1 = some (.tup (tv r.2)) ∧ r.1 ≠ p
def spScan : Sp := fun vs H Q _ => ∃ (l : List Nat), vs = [.str (S l)] ∧ l.length ≤ 100 ∧ ∀ p f H', H p = none → H f = none → Same H H' → H' p = some (.tup [.int (match (sc l 0).2 with | some col => (col : Int) | none => 0), .ref f]) → Rows' H' f (sc l 0).1 → Q (.ref p) H'
def spTokens (C1 C2 : Addr) : Sp := fun vs H Q E => ∃ (l : List Nat) (ln : Int), vs = [.str (S l), .int ln] ∧ l.length ≤ 100 ∧ 
  (∀ col d H', (sc l 0).2 = some col → Same H H' → H' d = some (.xd [("column", .int (col : Nat)), ("line", .int ln)]) → E (.ref C1) (some d) H') ∧
  (∀ d H', (sc l 0).2 = none → 40 < (sc l 0).1.length → Same H H' → H' d = some (.xd [("limit", .int 40), ("what", .str (Str.ofString "tokens"))]) → E (.ref C2) (some d) H') ∧
  (∀ p H', (sc l 0).2 = none → (sc l 0).1.length ≤ 40 → H p = none → Same H H' → Rows' H' p (sc l 0).1 → Q (.ref p) H')
section
variable {P : Program} {w : World} {K : PySem.W.Frag} {mg : Str → Option Value} {base : Heap} {dA : Nat → Addr}
theorem ok_tokens (T : Txt K mg dA) (c__end_of_token : C8.Cal P w K mg base 2 "_end_of_token" spTokEnd []) (c__kind_of : C8.Cal P w K mg base 2 "_kind_of" spKind []) (x_TooLarge : WExc.Exc P w K mg base "TooLarge" (dA 101) 2 (WExc.spIni (dA 101) 2 ok_TooLarge fs_TooLarge)) (x_BadText : WExc.Exc P w K mg base "BadText" (dA 100) 2 (WExc.spIni (dA 100) 2 ok_BadText fs_BadText)) {f : Addr} {fd : FuncData} (F : Fun K "tokens" "tokens" s_tokens f fd) : FnOk P w K mg base (L2.CX P w) 4 f fd ["text", "line"] (spTokens (dA 100) (dA 101)) := by
  refine F.okX sc_tokens (fun vs H Q E h => ?_) (fun cdv A outer s H vs Q E hr h => ?_)
  · obtain ⟨l, ln, rfl, _⟩ := h
    rfl
  obtain ⟨l, ln, rfl, hl, q1, q2, q3⟩ := h
  refine ⟨_, (pss_cons (ps_set (i := 2) sc_tokens.nd rfl (.inl rfl) (pe_lst pa_nil))
      (pss_cons (ps_set (i := 3) sc_tokens.nd rfl (.inl rfl) pe_int)
      (Evl.pss_cut (ps_while (passes_of rfl) (pt_cmpR op_lt (pv 3) (pe_callB call_len_str (by rfl) T.b_len (by decide +kernel) (pa_cons (pv 0) pa_nil)) (nomark _)) (pss_cons (ps_if (pt_cmpR op_eq (pe_ix ix_str (pv 0) (pv 3) (fun _ _ => rfl)) pe_str (nomark _)) (pss_cons (ps_aug (i := 3) sc_tokens.nd rfl (.inl rfl) pe_int ip_add)
      (pss_one ps_continue)) pss_nil)
      (pss_cons (ps_if (pt_cmpR op_eq (pe_slice sl_str (pv 0) (po_some (pv 3)) (po_some (pe_op op_add (pv 3) pe_int))) pe_str (nomark _)) (pss_one ps_break) pss_nil)
      (pss_cons (ps_set (i := 4) sc_tokens.nd rfl (.inl rfl) (C8.pe_c c__end_of_token hr (by decide) (by rfl) (pa_cons (pv 0) (pa_cons (pv 3) pa_nil))))
      (pss_cons (ps_set (i := 5) sc_tokens.nd rfl (.inl rfl) (pe_slice sl_str (pv 0) (po_some (pv 3)) (po_some (pv 4))))
      (pss_cons (ps_set (i := 6) sc_tokens.nd rfl (.inl rfl) (C8.pe_c c__kind_of hr (by decide) (by rfl) (pa_cons (pv 5) pa_nil)))
      (pss_cons (ps_if (pt_cmpR op_isN (pv 6) pe_non (nomark _)) (pss_one (WExc.ps_raiseT rfl (takes_of rfl rfl rfl rfl) (WExc.pmk_exc x_BadText hr (by decide) (by rfl) (by exact (pa_cons (pv 1) (pa_cons (pe_op op_add (pv 3) pe_int) pa_nil)))))) pss_nil)
      (pss_cons (ps_expr (kpe_bm K PySem.F.plainAttrs_list PySem.F.slot_list_append PySem.F.type_list_append mt_append (pv 2) (pa_cons (pe_tup (pa_cons (pv 6) (pa_cons (pv 5) (pa_cons (pe_op op_add (pv 3) pe_int) pa_nil)))) pa_nil)))
      (pss_one (ps_set (i := 3) sc_tokens.nd rfl (.inl rfl) (pv 4)))))))))))
      (pss_cons (ps_if (pt_cmpR op_gt (pe_callB (kcall_len_seq K) (by rfl) T.b_len (by decide +kernel) (pa_cons (pv 2) pa_nil)) (C8.pe_gc (by rfl) T.g_MOST_TOKENS) (nomark _)) (pss_one (WExc.ps_raiseT rfl (takes_of rfl rfl rfl rfl) (WExc.pmk_exc x_TooLarge hr (by decide) (by rfl) (by exact (pa_cons pe_str (pa_cons (C8.pe_gc (by rfl) T.g_MOST_TOKENS) pa_nil)))))) pss_nil)
      (pss_one (ps_ret (pv 2))))))), ?_⟩
  rw [show (L2.start ["text", "line", "found", "at", "end", "word", "kind"] [.str (S l), .int ln] : L2.St) = [some (.str (S l)), some (.int ln), none, none, none, none, none] from rfl]
  try simp only [WL.cxK]
  have hsz : (S l).length ≤ sizeLine := by rw [S_len]; exact sz_le (by omega)
  walk_at "go"
  refine ⟨by decide, fun p np => ?_⟩
  walk_at "go"
  refine ⟨fun σ' H' => ∃ (y0 y z u : Option V) (ps : List (Addr × Tok')), σ' = [some (.str (S l)), some (.int ln), some (.ref p), y0, y, z, u] ∧ (sc l 0).2 = none ∧ Same H H' ∧ H' p = some (.lst (ps.map fun r => V.ref r.1)) ∧ ps.map (·.2) = (sc l 0).1 ∧ ∀ r ∈ ps, H' r.1 = some (.tup (tv r.2)) ∧ r.1 ≠ p, ?_, fun σ' H' hm => ?_⟩
  · refine f_while (fun μ σ' H' => ∃ (a : Nat) (ps : List (Addr × Tok')) (y z u : Option V), σ' = [some (.str (S l)), some (.int ln), some (.ref p), some (.int a), y, z, u] ∧ sc l 0 = (ps.map (·.2) ++ (sc l a).1, (sc l a).2) ∧ a ≤ l.length ∧ ps.length ≤ 100 - l.length + a ∧ μ = l.length - a ∧ Same H H' ∧ H' p = some (.lst (ps.map fun r => V.ref r.1)) ∧ ∀ r ∈ ps, H' r.1 = some (.tup (tv r.2)) ∧ r.1 ≠ p) l.length
      ⟨0, [], none, none, none, rfl, by simp, Nat.zero_le _, by simp, by omega, same_new np, upd_same, fun _ h => by cases h⟩ ?_
    rintro μ σ' H' ⟨a, ps, y, z, u, rfl, hdr, ha, hpl, rfl, hs, hp, hrow⟩
    have out : ∀ (y0 y z u : Option V), sc l a = ([], none) → ∃ (y0' y' z' u' : Option V) (ps : List (Addr × Tok')), ([some (.str (S l)), some (.int ln), some (.ref p), y0, y, z, u] : L2.St) = [some (.str (S l)), some (.int ln), some (.ref p), y0', y', z', u'] ∧ (sc l 0).2 = none ∧ Same H H' ∧ H' p = some (.lst (ps.map fun r => V.ref r.1)) ∧ ps.map (·.2) = (sc l 0).1 ∧ ∀ r ∈ ps, H' r.1 = some (.tup (tv r.2)) ∧ r.1 ≠ p :=
      fun y0 y z u hr => ⟨y0, y, z, u, ps, rfl, by rw [hdr, hr], hs, hp, by rw [hdr, hr]; simp, hrow⟩
    walk_at "go"
    rw [S_len]
    refine g_ite (fun e => ?_) (fun e => ?_)
    · have hlt : a < l.length := by omega
      have hc : (S l).cps.toList[a]? = some l[a] := List.getElem?_eq_getElem hlt
      have hd : l.drop a = l[a] :: l.drop (a + 1) := List.drop_eq_getElem_cons hlt
      have hstep := sc_step hlt
      have hlen : (l.drop (a + 1)).length ≤ 200 := by rw [List.length_drop]; omega
      generalize l[a] = c at hc hd
      generalize hr : l.drop (a + 1) = t at hd hlen
      rw [hd] at hstep
      unfold stp at hstep
      dsimp only at hstep
      walk_at "go"
      refine g_ixS hsz (at_z (j := a) rfl hc) ?_
      walk_at "go"
      by_cases h32 : c = 32
      · subst h32
        rw [decide_eq_true (show V.str (⟨#[32]⟩ : Str) = V.str (Str.ofString " ") from rfl)]
        rw [if_pos rfl] at hstep
        walk_at "go"
        exact ⟨l.length - (a + 1), by omega, a + 1, ps, y, z, u, by rw [show (a : Int) + 1 = ((a + 1 : Nat) : Int) by omega], by rw [hdr, hstep], by omega, by omega, rfl, hs, hp, hrow⟩
      rw [if_neg h32] at hstep
      rw [decide_eq_false (show ¬ V.str (⟨#[c]⟩ : Str) = V.str (Str.ofString " ") from fun h => by
          have e1 : S [c] = S [32] := V.str.inj h
          exact h32 (List.cons.inj (S_inj e1)).1)]
      walk_at "go"
      refine g_slS hsz (cut2 l a) ?_
      rw [hd]
      walk_at "go"
      by_cases h45 : (c :: t).take 2 = [45, 45]
      · rw [decide_eq_true (show V.str (S (List.take 2 (c :: t))) = V.str (Str.ofString "--") by rw [h45]; rfl)]
        rw [if_pos h45] at hstep
        walk_at "go"
        exact out _ _ _ _ hstep
      rw [if_neg h45] at hstep
      rw [decide_eq_false (show ¬ V.str (S (List.take 2 (c :: t))) = V.str (Str.ofString "--") from fun h => h45 (by
          have e1 : S (List.take 2 (c :: t)) = S [45, 45] := V.str.inj h
          exact S_inj e1))]
      walk_at "go"
      refine ⟨l, a, rfl, hlt, by omega, ?_⟩
      rw [hd]
      walk_at "go"
      have htl := tokLen_le c t
      have htp := tokLen_pos c t
      have hfit : a + tokLen (c :: t) ≤ l.length := by
        have := congrArg List.length hd
        rw [List.length_drop] at this; omega
      refine g_slS hsz (cutS_nat l a (a + tokLen (c :: t))) ?_
      rw [show a + tokLen (c :: t) - a = tokLen (c :: t) by omega, hd]
      walk_at "go"
      refine ⟨c, t, rfl, hlen, ?_⟩
      cases hk : kd (c :: t) with
      | none =>
        rw [hk] at hstep
        dsimp only at hstep
        walk_at "go"
        rw [decide_eq_true (show kV none = V.non from rfl)]
        walk_at "go"
        refine WExc.g_raise ?_
        refine WExc.g_mkO ?_
        walk_at "go"
        refine WExc.g_ini rfl (by decide) ⟨ln, (a : Int) + 1, rfl, log_small (by omega) (by omega)⟩ fun d H2 nd s2 hd2 => ?_
        refine q1 (a + 1) d H2 (by rw [hdr, hstep]) (hs.trans s2) ?_
        rw [hd2]
        rw [show ((a + 1 : Nat) : Int) = (a : Int) + 1 by omega]
        rfl
      | some k =>
        rw [hk] at hstep
        dsimp only at hstep
        walk_at "go"
        rw [decide_eq_false (show ¬ kV (some k) = V.non from fun h => by cases h)]
        walk_at "go"
        refine ⟨sz_le (n := 3) (by decide), fun tp ntp => ?_⟩
        walk_at "go"
        refine g_app (by rw [upd_ne (ne_of_none hp ntp)]; exact hp) (sz_lt (by rw [List.length_map]; omega)) ?_
        walk_at "go"
        have npt : tp ≠ p := (ne_of_none hp ntp).symm
        refine ⟨l.length - (a + tokLen (c :: t)), by omega, a + tokLen (c :: t), ps ++ [(tp, (k, (c :: t).take (tokLen (c :: t)), a + 1))], _, _, _, rfl, ?_, hfit, by simp; omega, rfl, same_mut (hs.trans (same_new ntp)) np, by rw [upd_same, List.map_append]; rfl, fun u hu => ?_⟩
        · rw [hdr, hstep]
          simp
        · rcases List.mem_append.mp hu with hu | hu
          · obtain ⟨h1, h2⟩ := hrow u hu
            exact ⟨by rw [upd_ne h2, upd_ne (ne_of_none h1 ntp)]; exact h1, h2⟩
          · rw [List.mem_singleton.mp hu]
            refine ⟨?_, npt⟩
            rw [upd_ne npt, upd_same]
            rfl
    · exact out _ _ _ _ (sc_end (by omega))
  obtain ⟨y0, y, z, u, ps, rfl, hn, hs, hp, hpt, hrow⟩ := hm
  walk_at "go"
  rw [List.length_map]
  have hlen := congrArg List.length hpt
  rw [List.length_map] at hlen
  refine g_ite (fun e => ?_) (fun e => ?_)
  · walk_at "go"
    refine WExc.g_raise ?_
    refine WExc.g_mkO ?_
    walk_at "go"
    refine WExc.g_ini rfl (by decide) ⟨Str.ofString "tokens", 40, rfl, by decide +kernel, by decide +kernel⟩ fun d H2 nd s2 hd2 => ?_
    exact q2 d H2 hn (by omega) (hs.trans s2) hd2
  · walk_at "go"
    exact q3 p _ hn (by omega) np hs ⟨ps, hp, hpt, hrow⟩
end
end K01
set_option Elab.async false
set_option linter.all false
set_option maxRecDepth 100000
set_option maxHeartbeats 4000000
namespace K01
open PySem PySem.Spec PyProof.Rows L2 WL SX
local macro_rules | `(tactic| walk_at "lk") => `(tactic| first
  | exact upd_same
  | assumption
  | (rw [upd_ne (by assumption)]; first | exact upd_same | assumption | (rw [upd_ne (by assumption)]; first | exact upd_same | assumption | (rw [upd_ne (by assumption)]; first | exact upd_same | assumption))))
local macro_rules | `(tactic| walk_at "go1") => `(tactic| first
  | (with_reducible refine g_seq ?_)
  | (with_reducible refine g_asg ?_)
  | (with_reducible refine g_name ?_)
  | (with_reducible refine g_sub ?_)
  | ((with_reducible refine' g_var ?gv ?_); (case gv => exact rfl))
  | (with_reducible refine g_c ?_)
  | (with_reducible refine g_op ?_)
  | (with_reducible refine g_un ?_)
  | (with_reducible refine g_I0 ?_)
  | ((with_reducible refine g_I ?gc ?_); (case gc => first | assumption | decide | (show (0 : Int) < _; omega) | exact Or.inr ⟨by omega, by omega⟩ | exact Or.inl ⟨by omega, by omega⟩ | exact ⟨by omega, by omega⟩))
  | (with_reducible refine iteT ?_)
  | (with_reducible refine iteF ?_)
  | (with_reducible refine iteNT ?_)
  | (with_reducible refine iteNF ?_)
  | (with_reducible refine g_andV ?_)
  | (with_reducible refine g_orV ?_)
  | ((with_reducible refine' g_lenS (by assumption) ?_))
  | ((with_reducible refine' g_lenS (SqL.of (by walk_at "lk")) ?_))
  | (with_reducible refine g_U ?_)
  | ((with_reducible refine g_eq ?gs ?_); (case gs => rfl))
  | ((with_reducible refine g_ne ?gs ?_); (case gs => rfl))
  | (with_reducible refine g_drop ?_)
  | (with_reducible refine g_ret ?_)
  | (with_reducible refine g_next ?_)
  | (with_reducible refine g_ifS ?_)
  | (with_reducible refine g_ifE ?_)
  | (with_reducible refine g_test ?_)
  | (with_reducible refine g_tb ?_)
  | (with_reducible refine g_bl ?_)
  | (with_reducible refine g_not ?_)
  | (with_reducible refine g_and ?_)
  | (with_reducible refine g_or ?_)
  | (with_reducible refine g_nil ?_)
  | (with_reducible refine g_cons ?_)
  | (with_reducible refine g_cb ?_)
  | (with_reducible refine g_call ?_)
  | (with_reducible refine g_int ?_)
  | (with_reducible refine g_two ?_)
  | ((with_reducible refine g_lenStr ?gz ?_); (case gz => first | assumption | exact sz_le (by omega)))
  | (with_reducible refine g_m1 ?_)
  | (with_reducible refine g_isS ?_)
  | (with_reducible refine g_nn ?_)
  | (with_reducible refine g_yes ?_)
  | (with_reducible refine g_for ?_)
  | (with_reducible refine g_ckw ?_)
  | (with_reducible refine g_chain ?_)
  | (with_reducible refine g_gcons ?_)
  | (with_reducible refine g_gnil ?_)
  | (with_reducible refine g_notV ?_)
  | (with_reducible refine g_iZip ?_)
  | (with_reducible refine g_lc ?_)
  | (with_reducible refine g_lc2 ?_)
  | (with_reducible refine g_iList ?_)
  | (with_reducible refine g_iRng1 ?_)
  | (with_reducible refine g_iRng2 ?_)
  | (with_reducible refine g_sl ?_)
  | (with_reducible refine g_noPart ?_)
  | (with_reducible refine g_part ?_)
  | (with_reducible refine g_ex1 ?_)
  | (with_reducible refine g_bm ?_)
  | ((with_reducible refine' g_tyL (by walk_at "lk") ?_))
  | ((with_reducible refine' g_aug ?gv ?_); (case gv => exact rfl))
  | (with_reducible refine g_ipI ?_)
  | (with_reducible refine g_turn ?_)
  | (with_reducible refine g_brk ?_)
  | (with_reducible refine g_cont ?_)
  | (with_reducible refine g_sign ?_)
  | (with_reducible refine g_lst ?_)
  | (with_reducible refine g_tup ?_)
  | ((with_reducible refine' g_ixL (by assumption) ?ga ?_); (case ga => assumption))
  | ((with_reducible refine' g_ixL (SqL.of (by walk_at "lk")) ?ga ?_); (case ga => first | exact rfl | assumption))
  | ((with_reducible refine' g_ixT (SqT.of (by walk_at "lk")) ?ga ?_); (case ga => first | exact rfl | assumption))
  | ((with_reducible refine' g_lenT (SqT.of (by walk_at "lk")) ?_))
  | ((with_reducible refine' g_isiS (b := true) ?ga ?_); (case ga => decide +kernel))
  | ((with_reducible refine' g_isiS (b := false) ?ga ?_); (case ga => decide +kernel))
  | ((with_reducible refine' g_isiI (b := true) ?ga ?_); (case ga => decide +kernel))
  | ((with_reducible refine' g_isiI (b := false) ?ga ?_); (case ga => decide +kernel))
  | ((with_reducible refine' g_setL2 ?ga ?gb ?_); (case ga => exact rfl); (case gb => exact rfl))
  | ((with_reducible refine' g_setL (by walk_at "lk") ?ga ?gb ?_); (case ga => exact rfl); (case gb => exact rfl)))
local macro_rules | `(tactic| walk_at "go") => `(tactic| ((repeat walk_at "go1"); try dsimp only [List.set, List.cons_append, List.nil_append]))
theorem g_inL' {H : Hp} {Q : VK} {K : PySem.W.Frag} {p : Addr} {w : List Nat} {xs : List V} {l : List (List Nat)} (h : SqL K H p xs) (e : xs = l.map fun x => V.str (S x)) (q : Q (.bl (decide (w ∈ l))) H) : rIn K false (.str (S w)) (.ref p) H Q := by
  subst e; exact g_inL h q
theorem tw_succ {p : Nat → Bool} {l : List Nat} {a c : Nat} (hc : l[a]? = some c) (hp : p c = true) : ((l.drop a).takeWhile p).length = ((l.drop (a + 1)).takeWhile p).length + 1 := by
  obtain ⟨h, e⟩ := List.getElem?_eq_some_iff.mp hc
  rw [List.drop_eq_getElem_cons h, List.takeWhile_cons, e, hp]
  rfl
theorem Rows'.same {H H' : Hp} {p : Addr} {ts : List Tok'} (s : Same H H') (h : Rows' H p ts) : Rows' H' p ts := by
  obtain ⟨ps, h1, h2, h3⟩ := h
  exact ⟨ps, s _ _ h1, h2, fun r hr => ⟨s _ _ (h3 r hr).1, (h3 r hr).2⟩⟩
section
variable {P : Program} {w : World} {K : PySem.W.Frag} {mg : Str → Option Value} {base : Heap} {dA : Nat → Addr}
theorem ok__law_end (T : Txt K mg dA)  {f : Addr} {fd : FuncData} (F : Fun K "_law_end" "_law_end" s__law_end f fd) : FnOk P w K mg base CX0 1 f fd ["text", "at", "signs"] spEnd := by
  refine F.ok sc__law_end (fun vs H Q E h => ?_) (fun cdv A outer s H vs Q E hr h => ?_)
  · obtain ⟨l, g, a, rfl, _⟩ := h
    rfl
  obtain ⟨l, g, a, rfl, ha, hl, hg, q⟩ := h
  refine ⟨_, (pss_cons (ps_set (i := 3) sc__law_end.nd rfl (.inl rfl) (pe_op op_add (pv 1) pe_int))
      (pss_cons (ps_for PassesOwn.never rfl (pi_range1 (by rfl) T.b_range (pa_cons (pe_callB call_len_str (by rfl) T.b_len (by decide +kernel) (pa_cons (pv 0) pa_nil)) pa_nil)) (pg_name (i := 4) sc__law_end.nd rfl (.inl rfl)) (pss_one (ps_if (PW.pt (pw_and (pt_cmpR op_lt (pv 3) (pe_callB call_len_str (by rfl) T.b_len (by decide +kernel) (pa_cons (pv 0) pa_nil)) (nomark _)) (pw_and1 (pt_cmpR op_in_sign (pe_ix ix_str (pv 0) (pv 3) (fun _ _ => rfl)) (pv 2) rfl)))) (pss_one (ps_set (i := 3) sc__law_end.nd rfl (.inl rfl) (pe_op op_add (pv 3) pe_int))) pss_nil)))
      (pss_one (ps_ret (pv 3))))), ?_⟩
  rw [show (L2.start ["text", "at", "signs", "end", "k"] [.str (S l), .int a, .str (S g)] : L2.St) = [some (.str (S l)), some (.int a), some (.str (S g)), none, none] from rfl]
  try simp only [WL.cxK]
  have hc0 : l[a]? = some l[a] := List.getElem?_eq_getElem ha
  have hg' : l[a] ∈ g := by rw [List.getD_eq_getElem?_getD, hc0] at hg; exact hg
  rw [tw_succ hc0 (decide_eq_true hg')] at q
  generalize hm : ((l.drop (a + 1)).takeWhile fun x => decide (x ∈ g)).length = m at q
  have hml : a + 1 + m ≤ l.length := by
    have h1 : ((l.drop (a + 1)).takeWhile fun x => decide (x ∈ g)).length ≤ (l.drop (a + 1)).length := List.Sublist.length_le (List.takeWhile_sublist _)
    rw [hm, List.length_drop] at h1; omega
  have hsz : (S l).length ≤ sizeLine := by rw [S_len]; exact sz_le (by omega)
  walk_at "go"
  rw [S_len]
  refine f_rng1 (z := (l.length : Int)) (by omega) (by omega) (fun i σ' H' => ∃ (j : Nat) (y : Option V), σ' = [some (.str (S l)), some (.int a), some (.str (S g)), some (.int ((a + 1 + j : Nat) : Int)), y] ∧ j ≤ m ∧ (j = m ∨ i ≤ j) ∧ H' = H)
    ⟨0, none, by rw [show ((a + 1 + 0 : Nat) : Int) = (a : Int) + 1 by omega], by omega, .inr (by omega), rfl⟩ (fun i σ' H' hi hP => ?_) (fun σ' H' hP => ?_)
  · obtain ⟨j, y, rfl, hj, hij, rfl⟩ := hP
    walk_at "go"
    rw [S_len]
    refine g_ite (fun e => ?_) (fun e => ?_)
    · have hlt : a + 1 + j < l.length := by omega
      have hc : (S l).cps.toList[a + 1 + j]? = some l[a + 1 + j] := List.getElem?_eq_getElem hlt
      have htw := tw_at (p := fun x => decide (x ∈ g)) (r := l.drop (a + 1)) (k := j) (c := l[a + 1 + j]) (by rw [List.getElem?_drop]; exact hc) (by omega)
      rw [hm] at htw
      walk_at "go"
      refine g_ixS hsz (at_z (j := a + 1 + j) rfl hc) ?_
      walk_at "go"
      refine g_ite (fun e2 => ?_) (fun e2 => ?_)
      · have : j < m := htw.1 (decide_eq_true e2)
        walk_at "go"
        exact ⟨j + 1, _, by rw [show ((a + 1 + j : Nat) : Int) + 1 = ((a + 1 + (j + 1) : Nat) : Int) by omega], by omega, by omega, rfl⟩
      · have : ¬ j < m := fun h => e2 (of_decide_eq_true (htw.2 h))
        walk_at "go"
        exact ⟨j, _, rfl, by omega, by omega, rfl⟩
    · walk_at "go"
      exact ⟨j, _, rfl, by omega, by omega, rfl⟩
  · obtain ⟨j, y, rfl, hj, hij, rfl⟩ := hP
    walk_at "go"
    rw [show a + 1 + j = a + (m + 1) by omega]
    exact q
theorem ok__law_scan (T : Txt K mg dA) (c__law_end : C8.Cal P w K mg base 1 "_law_end" spEnd []) (c__law_number_is_good : C8.Cal P w K mg base 1 "_law_number_is_good" spNumGood []) (c__law_keywords : C8.Cal P w K mg base 1 "_law_keywords" spKws []) {f : Addr} {fd : FuncData} (F : Fun K "_law_scan" "_law_scan" s__law_scan f fd) : FnOk P w K mg base CX0 2 f fd ["text"] spScan := by
  refine F.ok sc__law_scan (fun vs H Q E h => ?_) (fun cdv A outer s H vs Q E hr h => ?_)
  · obtain ⟨l, rfl, _⟩ := h
    rfl
  obtain ⟨l, rfl, hl, q⟩ := h
  refine ⟨_, (pss_cons (ps_set (i := 1) sc__law_scan.nd rfl (.inl rfl) (pe_lst pa_nil))
      (pss_cons (ps_set (i := 2) sc__law_scan.nd rfl (.inl rfl) pe_int)
      (Evl.pss_cut (ps_for PassesOwn.never rfl (pi_range1 (by rfl) T.b_range (pa_cons (pe_callB call_len_str (by rfl) T.b_len (by decide +kernel) (pa_cons (pv 0) pa_nil)) pa_nil)) (pg_name (i := 3) sc__law_scan.nd rfl (.inl rfl)) (pss_cons (ps_if (PW.pt (pw_or (pt_cmpR op_ge (pv 2) (pe_callB call_len_str (by rfl) T.b_len (by decide +kernel) (pa_cons (pv 0) pa_nil)) (nomark _)) (pw_or1 (pt_cmpR op_eq (pe_slice sl_str (pv 0) (po_some (pv 2)) (po_some (pe_op op_add (pv 2) pe_int))) pe_str (nomark _))))) (pss_one ps_break) pss_nil)
      (pss_cons (ps_set (i := 4) sc__law_scan.nd rfl (.inl rfl) (pe_ix ix_str (pv 0) (pv 2) (fun _ _ => rfl)))
      (pss_cons (ps_set (i := 5) sc__law_scan.nd rfl (.inl rfl) (pe_op op_add (pv 2) pe_int))
      (pss_cons (ps_set (i := 6) sc__law_scan.nd rfl (.inl rfl) pe_str)
      (Evl.pss_cut (ps_if (pt_cmpR op_in_sign (pv 4) pe_str rfl) (pss_cons (ps_set (i := 6) sc__law_scan.nd rfl (.inl rfl) pe_str)
      (pss_cons (ps_set (i := 5) sc__law_scan.nd rfl (.inl rfl) (C8.pe_c c__law_end hr (by decide) (by rfl) (pa_cons (pv 0) (pa_cons (pv 2) (pa_cons pe_str pa_nil)))))
      (pss_one (ps_if (pt_not (pt_val (C8.pe_c c__law_number_is_good hr (by decide) (by rfl) (pa_cons (pe_slice sl_str (pv 0) (po_some (pv 2)) (po_some (pv 5))) pa_nil)))) (pss_one (ps_ret (pe_tup (pa_cons (pe_op op_add (pv 2) pe_int) (pa_cons (pv 1) pa_nil))))) pss_nil)))) (pss_one (ps_if (pt_cmpR op_in_sign (pv 4) pe_str rfl) (pss_cons (ps_set (i := 6) sc__law_scan.nd rfl (.inl rfl) pe_str)
      (pss_cons (ps_set (i := 5) sc__law_scan.nd rfl (.inl rfl) (C8.pe_c c__law_end hr (by decide) (by rfl) (pa_cons (pv 0) (pa_cons (pv 2) (pa_cons pe_str pa_nil)))))
      (pss_cons (ps_if (pt_cmpR op_gt (pe_op op_sub (pv 5) (pv 2)) pe_int (nomark _)) (pss_one (ps_ret (pe_tup (pa_cons (pe_op op_add (pv 2) pe_int) (pa_cons (pv 1) pa_nil))))) pss_nil)
      (pss_one (ps_if (pt_cmpR (kop_in_seq K) (pe_slice sl_str (pv 0) (po_some (pv 2)) (po_some (pv 5))) (my_c0 c__law_keywords hr (by decide) (by rfl)) rfl) (pss_one (ps_set (i := 6) sc__law_scan.nd rfl (.inl rfl) pe_str)) pss_nil))))) (pss_one (ps_if (pt_cmpR (kop_in_seq K) (pe_slice sl_str (pv 0) (po_some (pv 2)) (po_some (pe_op op_add (pv 2) pe_int))) (pe_lst (pa_cons pe_str (pa_cons pe_str (pa_cons pe_str (pa_cons pe_str (pa_cons pe_str (pa_cons pe_str pa_nil))))))) rfl) (pss_one (ps_set (i := 5) sc__law_scan.nd rfl (.inl rfl) (pe_op op_add (pv 2) pe_int))) (pss_one (ps_if (PW.pt (pw_and (pt_cmpR op_ne (pv 4) pe_str (nomark _)) (pw_and1 (pt_cmpR op_notIn_sign (pv 4) pe_str rfl)))) (pss_one (ps_ret (pe_tup (pa_cons (pe_op op_add (pv 2) pe_int) (pa_cons (pv 1) pa_nil))))) pss_nil)))))))
      (pss_cons (ps_if (pt_cmpR op_ne (pv 4) pe_str (nomark _)) (pss_one (ps_expr (kpe_bm K PySem.F.plainAttrs_list PySem.F.slot_list_append PySem.F.type_list_append mt_append (pv 1) (pa_cons (pe_tup (pa_cons (pv 6) (pa_cons (pe_slice sl_str (pv 0) (po_some (pv 2)) (po_some (pv 5))) (pa_cons (pe_op op_add (pv 2) pe_int) pa_nil)))) pa_nil)))) pss_nil)
      (pss_one (ps_set (i := 2) sc__law_scan.nd rfl (.inl rfl) (pv 5))))))))))
      (pss_one (ps_ret (pe_tup (pa_cons pe_int (pa_cons (pv 1) pa_nil)))))))), ?_⟩
  rw [show (L2.start ["text", "found", "at", "k", "sign", "end", "kind"] [.str (S l)] : L2.St) = [some (.str (S l)), none, none, none, none, none, none] from rfl]
  try simp only [WL.cxK]
  have hsz : (S l).length ≤ sizeLine := by rw [S_len]; exact sz_le (by omega)
  walk_at "go"
  refine ⟨by decide, fun f nf => ?_⟩
  walk_at "go"
  refine ⟨fun σ' H' => ∃ (y0 y z u v : Option V) (ps : List (Addr × Tok')), σ' = [some (.str (S l)), some (.ref f), y0, y, z, u, v] ∧ sc l 0 = (ps.map (·.2), none) ∧ Same H H' ∧ H' f = some (.lst (ps.map fun r => V.ref r.1)) ∧ ∀ r ∈ ps, H' r.1 = some (.tup (tv r.2)) ∧ r.1 ≠ f, ?_, fun σ' H' hm => ?_⟩
  · walk_at "go"
    rw [S_len]
    refine f_rng1 (z := (l.length : Int)) (by omega) (by omega) (fun i σ' H' => ∃ (a : Nat) (ps : List (Addr × Tok')) (y z u v : Option V), σ' = [some (.str (S l)), some (.ref f), some (.int a), y, z, u, v] ∧ sc l 0 = (ps.map (·.2) ++ (sc l a).1, (sc l a).2) ∧ i ≤ a ∧ ps.length ≤ a ∧ a ≤ l.length ∧ Same H H' ∧ H' f = some (.lst (ps.map fun r => V.ref r.1)) ∧ ∀ r ∈ ps, H' r.1 = some (.tup (tv r.2)) ∧ r.1 ≠ f)
      ⟨0, [], none, none, none, none, rfl, by simp, by omega, by simp, by omega, same_new nf, upd_same, fun _ h => by cases h⟩ (fun i σ' H' hi hP => ?_) (fun σ' H' hP => ?_)
    · obtain ⟨a, ps, y, z, u, v, rfl, hdr, hia, hpl, hal, hs, hp, hrow⟩ := hP
      have out : ∀ (y0 y z u v : Option V), sc l a = ([], none) → ∃ (y0' y' z' u' v' : Option V) (ps : List (Addr × Tok')), ([some (.str (S l)), some (.ref f), y0, y, z, u, v] : L2.St) = [some (.str (S l)), some (.ref f), y0', y', z', u', v'] ∧ sc l 0 = (ps.map (·.2), none) ∧ Same H H' ∧ H' f = some (.lst (ps.map fun r => V.ref r.1)) ∧ ∀ r ∈ ps, H' r.1 = some (.tup (tv r.2)) ∧ r.1 ≠ f :=
        fun y0 y z u v hr => ⟨y0, y, z, u, v, ps, rfl, by rw [hdr, hr]; simp, hs, hp, hrow⟩
      walk_at "go"
      rw [S_len]
      refine g_ite (fun e => ?_) (fun e => ?_)
      · walk_at "go"
        exact out _ _ _ _ _ (sc_end (by omega))
      have hlt : a < l.length := by omega
      have hc : (S l).cps.toList[a]? = some l[a] := List.getElem?_eq_getElem hlt
      have hd : l.drop a = l[a] :: l.drop (a + 1) := List.drop_eq_getElem_cons hlt
      have hget : l.getD a 0 = l[a] := by rw [List.getD_eq_getElem?_getD, show l[a]? = some l[a] from hc]; rfl
      have hstep := sc_step hlt
      have hlen : (l.drop (a + 1)).length ≤ 100 := by rw [List.length_drop]; omega
      generalize l[a] = c at hc hd hget
      generalize hr : l.drop (a + 1) = t at hd hlen
      rw [hd] at hstep
      unfold stp at hstep
      dsimp only at hstep
      have htl := tokLen_le c t
      have htp := tokLen_pos c t
      have hfit : a + tokLen (c :: t) ≤ l.length := by
        have := congrArg List.length hd
        rw [List.length_drop] at this; omega
      walk_at "go"
      refine g_slS hsz (cut2 l a) ?_
      rw [hd]
      walk_at "go"
      by_cases h45 : (c :: t).take 2 = [45, 45]
      · rw [decide_eq_true (show V.str (S (List.take 2 (c :: t))) = V.str (Str.ofString "--") by rw [h45]; rfl)]
        have h32 : c ≠ 32 := by
          intro h
          have e1 : c :: t.take 1 = [45, 45] := h45
          rw [(List.cons.inj e1).1] at h; cases h
        rw [if_neg h32, if_pos h45] at hstep
        walk_at "go"
        exact out _ _ _ _ _ hstep
      rw [decide_eq_false (show ¬ V.str (S (List.take 2 (c :: t))) = V.str (Str.ofString "--") from fun h => h45 (by
          have e1 : S (List.take 2 (c :: t)) = S [45, 45] := V.str.inj h
          exact S_inj e1))]
      walk_at "go"
      refine g_ixS hsz (at_z (j := a) rfl hc) ?_
      walk_at "go"
      refine ⟨fun σ' H2 => ∃ (k : Str) (n : Nat), σ' = [some (.str (S l)), some (.ref f), some (.int a), some (.int i), some (.str (S [c])), some (.int ((a + n : Nat) : Int)), some (.str k)] ∧ Same H' H2 ∧ 1 ≤ n ∧ a + n ≤ l.length ∧ (if c = 32 then n = 1 else kd (c :: t) = some k ∧ n = tokLen (c :: t)), ?_, fun σ' H2 hm => ?_⟩
      · obtain ⟨KD, hKD⟩ : ∃ KD, KD = kd (c :: t) := ⟨_, rfl⟩
        have bad : c ≠ 32 → KD = none → ∀ (H2 : Hp), Same H' H2 → [V.int ((a : Int) + 1), V.ref f].length ≤ sizeLine ∧ ∀ p, H2 p = none → Q (.ref p) (upd H2 p (.tup [V.int ((a : Int) + 1), V.ref f])) := fun h32 hk H2 s2 => by
          refine ⟨sz_le (n := 2) (by simp), fun p np => ?_⟩
          rw [if_neg h32, if_neg h45, ← hKD, hk] at hstep
          have s3 := (hs.trans s2)
          refine q p f _ (s3.free np) nf (s3.trans (same_new np)) ?_ ?_
          · rw [upd_same, hdr, hstep]
            show some (HO.tup [V.int ((a : Int) + 1), V.ref f]) = some (HO.tup [V.int ((a + 1 : Nat) : Int), V.ref f])
            rw [show ((a + 1 : Nat) : Int) = (a : Int) + 1 by omega]
          · rw [hdr, hstep]
            refine Rows'.same (s2.trans (same_new np)) ⟨ps, hp, ?_, hrow⟩
            simp
        have good : ∀ {k : Str} {n : Nat} {H2 : Hp}, Same H' H2 → c ≠ 32 → KD = some k → n = tokLen (c :: t) → ∃ (k' : Str) (n' : Nat), ([some (.str (S l)), some (.ref f), some (.int a), some (.int i), some (.str (S [c])), some (.int ((a + n : Nat) : Int)), some (.str k)] : L2.St) = [some (.str (S l)), some (.ref f), some (.int a), some (.int i), some (.str (S [c])), some (.int ((a + n' : Nat) : Int)), some (.str k')] ∧ Same H' H2 ∧ 1 ≤ n' ∧ a + n' ≤ l.length ∧ (if c = 32 then n' = 1 else kd (c :: t) = some k' ∧ n' = tokLen (c :: t)) :=
          fun {k n H2} s2 h32 hk hn => ⟨k, n, rfl, s2, by omega, by omega, by rw [if_neg h32]; exact ⟨by rw [← hKD]; exact hk, hn⟩⟩
        unfold kd at hKD
        dsimp only at hKD
        walk_at "go"
        rw [lit_dig]
        refine g_ite (fun e1 => ?_) (fun e1 => ?_)
        · have e1 : c ∈ DIG := e1
          have eL : c ∉ LET := dig_let e1
          have h32 : c ≠ 32 := by rintro rfl; exact absurd e1 (by decide)
          simp only [e1, eL, if_true, if_false] at hKD
          have htk : tokLen (c :: t) = ((l.drop a).takeWhile fun x => decide (x ∈ DIG)).length := by
            rw [hd]; unfold tokLen; simp only [e1, eL, if_true, if_false]
          walk_at "go"
          refine ⟨l, DIG, a, rfl, hlt, by omega, by rw [hget]; exact e1, ?_⟩
          rw [← htk]
          walk_at "go"
          refine g_slS hsz (cutS_nat l a (a + tokLen (c :: t))) ?_
          rw [show a + tokLen (c :: t) - a = tokLen (c :: t) by omega, hd]
          obtain ⟨w, hw, hwl⟩ : ∃ w, (c :: t).take (tokLen (c :: t)) = c :: w ∧ w.length ≤ t.length := by
            obtain ⟨m, hm⟩ : ∃ m, tokLen (c :: t) = m + 1 := ⟨tokLen (c :: t) - 1, by omega⟩
            exact ⟨t.take m, by rw [hm, List.take_succ_cons], by rw [List.length_take]; exact Nat.min_le_right _ _⟩
          have hall : NumText.AllDigits (c :: w) := fun x hx => by
            rw [← hw, htk, hd, take_tw] at hx
            have hm := of_decide_eq_true (mem_tw hx)
            unfold DIG at hm
            obtain ⟨y, hy, rfl⟩ := List.mem_map.mp hm
            have := List.mem_range.mp hy
            omega
          rw [hw] at hKD ⊢
          walk_at "go"
          refine ⟨c, w, rfl, hall, by omega, ?_⟩
          walk_at "go"
          cases hgn : goodNum (c :: w) with
          | true =>
            walk_at "go"
            exact good (fun _ _ h => h) h32 (by rw [hKD, hgn]; rfl) rfl
          | false =>
            walk_at "go"
            exact bad h32 (by rw [hKD, hgn]; rfl) _ fun _ _ h => h
        have e1 : c ∉ DIG := e1
        walk_at "go"
        rw [lit_let]
        refine g_ite (fun e2 => ?_) (fun e2 => ?_)
        · have e2 : c ∈ LET := e2
          have h32 : c ≠ 32 := by rintro rfl; exact absurd e2 (by decide)
          simp only [e2, if_true] at hKD
          have htk : tokLen (c :: t) = ((l.drop a).takeWhile fun x => decide (x ∈ WS)).length := by
            rw [hd]; unfold tokLen; simp only [e2, if_true]
          walk_at "go"
          rw [lit_ws]
          refine ⟨l, WS, a, rfl, hlt, by omega, by rw [hget]; exact List.mem_append.mpr (.inl (List.mem_append.mpr (.inl e2))), ?_⟩
          rw [← htk]
          walk_at "go"
          by_cases h16 : 16 < tokLen (c :: t)
          · rw [decide_eq_true (show (16 : Int) < ((a + tokLen (c :: t) : Nat) : Int) - (a : Int) by omega)]
            rw [if_pos h16] at hKD
            walk_at "go"
            exact bad h32 hKD _ fun _ _ h => h
          rw [decide_eq_false (show ¬ (16 : Int) < ((a + tokLen (c :: t) : Nat) : Int) - (a : Int) by omega)]
          rw [if_neg h16] at hKD
          walk_at "go"
          refine g_slS hsz (cutS_nat l a (a + tokLen (c :: t))) ?_
          rw [show a + tokLen (c :: t) - a = tokLen (c :: t) by omega, hd]
          walk_at "go"
          refine ⟨rfl, fun p H2 np s2 hp2 => ?_⟩
          refine g_inL (SqL.of hp2) ?_
          walk_at "go"
          refine g_ite (fun e3 => ?_) (fun e3 => ?_)
          · rw [if_pos e3] at hKD
            walk_at "go"
            exact good s2 h32 hKD rfl
          · rw [if_neg e3] at hKD
            walk_at "go"
            exact good s2 h32 hKD rfl
        have e2 : c ∉ LET := e2
        have ht : tokLen (c :: t) = if (c :: t).take 2 ∈ DBL then 2 else 1 := by
          unfold tokLen
          simp only [e1, e2, if_false]
        simp only [e1, e2, if_false] at hKD
        walk_at "go"
        refine g_slS hsz (cut2 l a) ?_
        rw [hd]
        walk_at "go"
        refine ⟨sz_le (n := 6) (by decide), fun p np => ?_⟩
        refine g_inL' (l := DBL) (SqL.of upd_same) dbl_lit ?_
        have s2 := same_new (o := .lst [V.str (Str.ofString "<="), V.str (Str.ofString "=="), V.str (Str.ofString "!="), V.str (Str.ofString ">="), V.str (Str.ofString "<<"), V.str (Str.ofString ">>")]) np
        walk_at "go"
        refine g_ite (fun e3 => ?_) (fun e3 => ?_)
        · have h32 : c ≠ 32 := by
            rintro rfl
            have h2 : ∀ d ∈ DBL, d.headD 0 ≠ 32 := by decide
            exact h2 _ e3 (by simp)
          rw [if_pos e3] at ht hKD
          walk_at "go"
          rw [show (a : Int) + 2 = ((a + 2 : Nat) : Int) by omega]
          exact good s2 h32 hKD ht.symm
        rw [if_neg e3] at ht hKD
        have e4 : ∀ x : Nat, decide (V.str (⟨#[x]⟩ : Str) = V.str (Str.ofString " ")) = decide (x = 32) := fun x => decide_eq_decide.mpr ⟨fun h => by
          have e1 : S [x] = S [32] := V.str.inj h
          exact (List.cons.inj (S_inj e1)).1, fun h => by rw [h]; rfl⟩
        walk_at "go"
        rw [e4]
        by_cases h32 : c = 32
        · rw [decide_eq_true h32]
          walk_at "go"
          exact ⟨Str.ofString "symbol", 1, by rw [show (a : Int) + 1 = ((a + 1 : Nat) : Int) by omega], s2, by omega, by omega, by rw [if_pos h32]⟩
        rw [decide_eq_false h32]
        walk_at "go"
        rw [lit_sgl]
        refine g_iteN (fun e5 => ?_) (fun e5 => ?_)
        · have e5 : c ∉ SGL := e5
          rw [if_neg e5] at hKD
          walk_at "go"
          exact bad h32 hKD _ s2
        · have e5 : c ∈ SGL := e5
          rw [if_pos e5] at hKD
          walk_at "go"
          rw [show (a : Int) + 1 = ((a + 1 : Nat) : Int) by omega]
          exact good s2 h32 hKD ht.symm
      obtain ⟨k, n, rfl, s2, hn1, hn2, hkn⟩ := hm
      have hp2 := s2 _ _ hp
      have hs2 := hs.trans s2
      walk_at "go"
      by_cases h32 : c = 32
      · subst h32
        rw [if_pos rfl] at hstep hkn
        subst hkn
        rw [decide_eq_true (show V.str (S [32]) = V.str (Str.ofString " ") from rfl)]
        walk_at "go"
        exact ⟨a + 1, ps, _, _, _, _, rfl, by rw [hdr, hstep], by omega, by omega, by omega, hs2, hp2, fun r hr => ⟨s2 _ _ (hrow r hr).1, (hrow r hr).2⟩⟩
      · rw [if_neg h32] at hstep hkn
        obtain ⟨hk, rfl⟩ := hkn
        rw [if_neg h45, hk] at hstep
        dsimp only at hstep
        rw [decide_eq_false (show ¬ V.str (S [c]) = V.str (Str.ofString " ") from fun h => by
          have e1 : S [c] = S [32] := V.str.inj h
          exact h32 (List.cons.inj (S_inj e1)).1)]
        walk_at "go"
        refine g_slS hsz (cutS_nat l a (a + tokLen (c :: t))) ?_
        rw [show a + tokLen (c :: t) - a = tokLen (c :: t) by omega, hd]
        walk_at "go"
        refine ⟨sz_le (n := 3) (by decide), fun tp ntp => ?_⟩
        walk_at "go"
        refine g_app (by rw [upd_ne (ne_of_none hp2 ntp)]; exact hp2) (sz_lt (by rw [List.length_map]; omega)) ?_
        walk_at "go"
        have npt : tp ≠ f := (ne_of_none hp2 ntp).symm
        refine ⟨a + tokLen (c :: t), ps ++ [(tp, (k, (c :: t).take (tokLen (c :: t)), a + 1))], _, _, _, _, rfl, ?_, by omega, by simp; omega, hn2, same_mut (hs2.trans (same_new ntp)) nf, by rw [upd_same, List.map_append]; rfl, fun r hr => ?_⟩
        · rw [hdr, hstep]
          simp
        · rcases List.mem_append.mp hr with hr | hr
          · obtain ⟨h1, h2⟩ := hrow r hr
            have h1 := s2 _ _ h1
            exact ⟨by rw [upd_ne h2, upd_ne (ne_of_none h1 ntp)]; exact h1, h2⟩
          · rw [List.mem_singleton.mp hr]
            refine ⟨?_, npt⟩
            rw [upd_ne npt, upd_same]
            rfl
    · obtain ⟨a, ps, y, z, u, v, rfl, hdr, hia, hpl, hal, hs, hp, hrow⟩ := hP
      walk_at "go"
      exact ⟨_, _, _, _, _, ps, rfl, by rw [hdr, sc_end (by omega)]; simp, hs, hp, hrow⟩
  obtain ⟨y0, y, z, u, v, ps, rfl, hdr, hs, hp, hrow⟩ := hm
  walk_at "go"
  refine ⟨sz_le (n := 2) (by simp), fun p np => ?_⟩
  refine q p f _ (hs.free np) nf (hs.trans (same_new np)) (by rw [upd_same, hdr]) ?_
  rw [hdr]
  exact Rows'.same (same_new np) ⟨ps, hp, rfl, hrow⟩
end
end K01
set_option Elab.async false
set_option linter.all false
set_option maxRecDepth 100000
set_option maxHeartbeats 4000000
namespace K01
open PySem PySem.Spec PyProof.Rows L2 WL SX
local macro_rules | `(tactic| walk_at "lk") => `(tactic| first
  | exact upd_same
  | assumption
  | (rw [upd_ne (by assumption)]; first | exact upd_same | assumption | (rw [upd_ne (by assumption)]; first | exact upd_same | assumption | (rw [upd_ne (by assumption)]; first | exact upd_same | assumption))))
local macro_rules | `(tactic| walk_at "go1") => `(tactic| first
  | (with_reducible refine g_seq ?_)
  | (with_reducible refine g_asg ?_)
  | (with_reducible refine g_name ?_)
  | (with_reducible refine g_sub ?_)
  | ((with_reducible refine' g_var ?gv ?_); (case gv => exact rfl))
  | (with_reducible refine g_c ?_)
  | (with_reducible refine g_op ?_)
  | (with_reducible refine g_un ?_)
  | (with_reducible refine g_I0 ?_)
  | ((with_reducible refine g_I ?gc ?_); (case gc => first | assumption | decide | (show (0 : Int) < _; omega) | exact Or.inr ⟨by omega, by omega⟩ | exact Or.inl ⟨by omega, by omega⟩ | exact ⟨by omega, by omega⟩))
  | (with_reducible refine iteT ?_)
  | (with_reducible refine iteF ?_)
  | (with_reducible refine iteNT ?_)
  | (with_reducible refine iteNF ?_)
  | (with_reducible refine g_andV ?_)
  | (with_reducible refine g_orV ?_)
  | ((with_reducible refine' g_lenS (by assumption) ?_))
  | ((with_reducible refine' g_lenS (SqL.of (by walk_at "lk")) ?_))
  | (with_reducible refine g_U ?_)
  | ((with_reducible refine g_eq ?gs ?_); (case gs => rfl))
  | ((with_reducible refine g_ne ?gs ?_); (case gs => rfl))
  | (with_reducible refine g_drop ?_)
  | (with_reducible refine g_ret ?_)
  | (with_reducible refine g_next ?_)
  | (with_reducible refine g_ifS ?_)
  | (with_reducible refine g_ifE ?_)
  | (with_reducible refine g_test ?_)
  | (with_reducible refine g_tb ?_)
  | (with_reducible refine g_bl ?_)
  | (with_reducible refine g_not ?_)
  | (with_reducible refine g_and ?_)
  | (with_reducible refine g_or ?_)
  | (with_reducible refine g_nil ?_)
  | (with_reducible refine g_cons ?_)
  | (with_reducible refine g_cb ?_)
  | (with_reducible refine g_call ?_)
  | (with_reducible refine g_int ?_)
  | (with_reducible refine g_two ?_)
  | ((with_reducible refine g_lenStr ?gz ?_); (case gz => first | assumption | exact sz_le (by omega)))
  | (with_reducible refine g_m1 ?_)
  | (with_reducible refine g_isS ?_)
  | (with_reducible refine g_nn ?_)
  | (with_reducible refine g_yes ?_)
  | (with_reducible refine g_for ?_)
  | (with_reducible refine g_ckw ?_)
  | (with_reducible refine g_chain ?_)
  | (with_reducible refine g_gcons ?_)
  | (with_reducible refine g_gnil ?_)
  | (with_reducible refine g_notV ?_)
  | (with_reducible refine g_iZip ?_)
  | (with_reducible refine g_lc ?_)
  | (with_reducible refine g_lc2 ?_)
  | (with_reducible refine g_iList ?_)
  | (with_reducible refine g_iRng1 ?_)
  | (with_reducible refine g_iRng2 ?_)
  | (with_reducible refine g_sl ?_)
  | (with_reducible refine g_noPart ?_)
  | (with_reducible refine g_part ?_)
  | (with_reducible refine g_ex1 ?_)
  | (with_reducible refine g_bm ?_)
  | ((with_reducible refine' g_tyL (by walk_at "lk") ?_))
  | ((with_reducible refine' g_aug ?gv ?_); (case gv => exact rfl))
  | (with_reducible refine g_ipI ?_)
  | (with_reducible refine g_turn ?_)
  | (with_reducible refine g_brk ?_)
  | (with_reducible refine g_cont ?_)
  | (with_reducible refine g_sign ?_)
  | (with_reducible refine g_lst ?_)
  | (with_reducible refine g_tup ?_)
  | ((with_reducible refine' g_ixL (by assumption) ?ga ?_); (case ga => assumption))
  | ((with_reducible refine' g_ixL (SqL.of (by walk_at "lk")) ?ga ?_); (case ga => first | exact rfl | assumption))
  | ((with_reducible refine' g_ixT (SqT.of (by walk_at "lk")) ?ga ?_); (case ga => first | exact rfl | assumption))
  | ((with_reducible refine' g_lenT (SqT.of (by walk_at "lk")) ?_))
  | ((with_reducible refine' g_isiS (b := true) ?ga ?_); (case ga => decide +kernel))
  | ((with_reducible refine' g_isiS (b := false) ?ga ?_); (case ga => decide +kernel))
  | ((with_reducible refine' g_isiI (b := true) ?ga ?_); (case ga => decide +kernel))
  | ((with_reducible refine' g_isiI (b := false) ?ga ?_); (case ga => decide +kernel))
  | ((with_reducible refine' g_setL2 ?ga ?gb ?_); (case ga => exact rfl); (case gb => exact rfl))
  | ((with_reducible refine' g_setL (by walk_at "lk") ?ga ?gb ?_); (case ga => exact rfl); (case gb => exact rfl)))
local macro_rules | `(tactic| walk_at "go") => `(tactic| ((repeat walk_at "go1"); try dsimp only [List.set, List.cons_append, List.nil_append]))
def spDue : Sp := fun vs H Q _ => ∃ (l : List Nat) (ln : Int), vs = [.str (S l), .int ln] ∧ l.length ≤ 100 ∧ ∀ p H', Same H H' → At H' (.ref p) (outD l ln) → Q (.ref p) H'
def spAnswer : Sp := spDue
def spAlike : Nat → Sp
  | 0 => fun _ _ _ _ => False
  | n + 1 => fun vs H Q _ => ∃ (v1 v2 : V) (d : Dt), vs = [v1, v2] ∧ At H v1 d ∧ At H v2 d ∧ Deep (n + 1) d ∧ Q (.bl true) H
def spLaw (K : PySem.W.Frag) : Sp := fun vs H Q _ => ∃ (a : Addr) (ns : List Int), vs = [.ref a] ∧ SqL K H a (ns.map V.int) ∧ ns.length ≤ 63 ∧ ∀ H', Q (.bl true) H'
theorem atI_of {α : Type} {xs : List α} {i : Nat} (h : i < xs.length) : atI xs (i : Int) = some xs[i] := atI_nat (List.getElem?_eq_getElem h)
section
variable {P : Program} {w : World} {K : PySem.W.Frag} {mg : Str → Option Value} {base : Heap} {dA : Nat → Addr}
theorem ok__law_due (T : Txt K mg dA) (c__law_scan : C8.Cal P w K mg base 2 "_law_scan" spScan []) {f : Addr} {fd : FuncData} (F : Fun K "_law_due" "_law_due" s__law_due f fd) : FnOk P w K mg base CX0 3 f fd ["text", "line"] spDue := by
  refine F.ok sc__law_due (fun vs H Q E h => ?_) (fun cdv A outer s H vs Q E hr h => ?_)
  · obtain ⟨l, ln, rfl, _⟩ := h
    rfl
  obtain ⟨l, ln, rfl, hl, q⟩ := h
  refine ⟨_, (pss_cons (ps_asg (C8.pe_c c__law_scan hr (by decide) (by rfl) (pa_cons (pv 0) pa_nil)) (kpg_tup K (n := 2) (by rfl) (pgs_cons (pg_name (i := 2) sc__law_due.nd rfl (.inl rfl)) (pgs_cons (pg_name (i := 3) sc__law_due.nd rfl (.inl rfl)) pgs_nil))))
      (pss_cons (ps_if (pt_cmpR op_gt (pv 2) pe_int (nomark _)) (pss_one (ps_ret (pe_tup (pa_cons pe_str (pa_cons (pv 1) (pa_cons (pv 2) pa_nil)))))) pss_nil)
      (pss_cons (ps_if (pt_cmpR op_gt (pe_callB (kcall_len_seq K) (by rfl) T.b_len (by decide +kernel) (pa_cons (pv 3) pa_nil)) pe_int (nomark _)) (pss_one (ps_ret (pe_tup (pa_cons pe_str (pa_cons pe_str (pa_cons pe_int pa_nil)))))) pss_nil)
      (pss_one (ps_ret (pe_tup (pa_cons pe_str (pa_cons (pe_callTy (kcall_tuple_of K) (by rfl) T.b_tuple (by decide +kernel) (pa_cons (pv 3) pa_nil)) pa_nil)))))))), ?_⟩
  rw [show (L2.start ["text", "line", "column", "found"] [.str (S l), .int ln] : L2.St) = [some (.str (S l)), some (.int ln), none, none] from rfl]
  try simp only [WL.cxK]
  walk_at "go"
  refine ⟨l, rfl, hl, fun p f H1 np nf s1 hp ⟨ps, hf, hps, hrow⟩ => ?_⟩
  refine ⟨p, _, rfl, SqT.of hp, rfl, ?_⟩
  have hn : (sc l 0).1.length ≤ 100 := Nat.le_trans sc_len hl
  have hlen := congrArg List.length hps
  rw [List.length_map] at hlen
  unfold outD at q
  walk_at "go"
  cases hc : (sc l 0).2 with
  | some col =>
    rw [hc] at q
    have := sc_col hc
    rw [hc] at hp
    dsimp only at q ⊢
    rw [decide_eq_true (show (0 : Int) < (col : Int) by omega)]
    walk_at "go"
    refine ⟨sz_le (n := 3) (by simp), fun t nt => ?_⟩
    exact q t _ (s1.trans (same_new nt)) (at3 upd_same (.s _) (.i _) (.i _))
  | none =>
    rw [hc] at q
    dsimp only at q ⊢
    rw [decide_eq_false (show ¬ (0 : Int) < 0 by decide)]
    walk_at "go"
    rw [List.length_map]
    refine g_ite (fun e => ?_) (fun e => ?_)
    · rw [if_pos (by omega)] at q
      walk_at "go"
      refine ⟨sz_le (n := 3) (by simp), fun t nt => ?_⟩
      exact q t _ (s1.trans (same_new nt)) (at3 upd_same (.s _) (.s _) (.i _))
    · rw [if_neg (by omega)] at q
      walk_at "go"
      refine ⟨f, _, rfl, .inl ⟨SqL.of hf, fun t nt => ?_⟩⟩
      walk_at "go"
      refine ⟨sz_le (n := 2) (by simp), fun u nu => ?_⟩
      have e1 := atL (H := upd (upd H1 t (.tup (ps.map fun r => V.ref r.1))) u (.tup [V.str (Str.ofString "list"), V.ref t])) (p := t) (ps := ps) (by rw [upd_ne (ne_of_none upd_same nu)]; exact upd_same) (by omega) fun r hr => ((same_new nt).trans (same_new nu)) _ _ (hrow r hr).1
      rw [hps] at e1
      exact q u _ (s1.trans ((same_new nt).trans (same_new nu))) (at2 upd_same (.s _) e1)
theorem ok__law_answer (T : Txt K mg dA) (c_tokens : WExc.CalX P w K mg base 4 "tokens" (spTokens (dA 100) (dA 101))) {f : Addr} {fd : FuncData} (F : Fun K "_law_answer" "_law_answer" s__law_answer f fd) : FnOk P w K mg base CX0 5 f fd ["text", "line"] spAnswer := by
  refine F.ok sc__law_answer (fun vs H Q E h => ?_) (fun cdv A outer s H vs Q E hr h => ?_)
  · obtain ⟨l, ln, rfl, _⟩ := h
    rfl
  obtain ⟨l, ln, rfl, hl, q⟩ := h
  refine ⟨_, (pss_cons (WExc.kps_try K rfl rfl sc__law_answer.nd takes0 (fun W pn xe tk po => by exact (pss_one (ps_set (i := 2) sc__law_answer.nd rfl (.inl rfl) (WExc.pe_cT c_tokens hr (by decide) (by rfl) tk (by exact (pa_cons (pv 0) (pa_cons (pv 1) pa_nil))))))) (.cons (c := .ref (dA 100)) (i := 3) ⟨rfl, by decide, .inl T.gx_BadText⟩ rfl rfl (fun a oe cls d pn hz hf => by exact (pss_cons (ps_if (PW.pt (pw_or (pt_not (pt_val (pe_callB (WExc.call_isD hz hf K) (by rfl) T.b_isinstance (by decide +kernel) (pa_cons (pv 3) (pa_cons (pe_bltn (v := .ty "ValueError") (by rfl) T.b_ValueError (by decide +kernel) rfl) pa_nil))))) (pw_or (pt_not (pt_val (pe_callB (WExc.call_isD hz hf K) (by rfl) T.b_isinstance (by decide +kernel) (pa_cons (pv 3) (pa_cons (C8.pe_gc (by rfl) T.gc_GatesError) pa_nil))))) (pw_or1 (pt_val (pe_callB (WExc.call_isD hz hf K) (by rfl) T.b_isinstance (by decide +kernel) (pa_cons (pv 3) (pa_cons (C8.pe_gc (by rfl) T.gc_TooLarge) pa_nil)))))))) (pss_one (ps_ret (pe_tup (pa_cons pe_str (pa_cons pe_int (pa_cons pe_int pa_nil)))))) pss_nil)
      (pss_one (ps_ret (pe_tup (pa_cons pe_str (pa_cons (WExc.pe_xg (K := K) hz hf (pv 3)) (pa_cons (WExc.pe_xg (K := K) hz hf (pv 3)) pa_nil)))))))) (.cons (c := .ref (dA 101)) (i := 3) ⟨rfl, by decide, .inl T.gx_TooLarge⟩ rfl rfl (fun a oe cls d pn hz hf => by exact (pss_cons (ps_if (PW.pt (pw_or (pt_not (pt_val (pe_callB (WExc.call_isD hz hf K) (by rfl) T.b_isinstance (by decide +kernel) (pa_cons (pv 3) (pa_cons (pe_bltn (v := .ty "ValueError") (by rfl) T.b_ValueError (by decide +kernel) rfl) pa_nil))))) (pw_or (pt_not (pt_val (pe_callB (WExc.call_isD hz hf K) (by rfl) T.b_isinstance (by decide +kernel) (pa_cons (pv 3) (pa_cons (C8.pe_gc (by rfl) T.gc_GatesError) pa_nil))))) (pw_or1 (pt_val (pe_callB (WExc.call_isD hz hf K) (by rfl) T.b_isinstance (by decide +kernel) (pa_cons (pv 3) (pa_cons (C8.pe_gc (by rfl) T.gc_BadText) pa_nil)))))))) (pss_one (ps_ret (pe_tup (pa_cons pe_str (pa_cons pe_int (pa_cons pe_int pa_nil)))))) pss_nil)
      (pss_one (ps_ret (pe_tup (pa_cons pe_str (pa_cons (WExc.pe_xg (K := K) hz hf (pv 3)) (pa_cons (WExc.pe_xg (K := K) hz hf (pv 3)) pa_nil)))))))) .nil)))
      (pss_cons (ps_if (pt_not (pt_val (pe_callB (kcall_isi K) (by rfl) T.b_isinstance (by decide +kernel) (pa_cons (pv 2) (pa_cons (pe_bltn (v := .ty "list") (by rfl) T.b_list (by decide +kernel) rfl) pa_nil))))) (pss_one (ps_ret (pe_tup (pa_cons pe_str (pa_cons pe_int (pa_cons pe_int pa_nil)))))) pss_nil)
      (pss_one (ps_ret (pe_tup (pa_cons pe_str (pa_cons (pe_callTy (kcall_tuple_of K) (by rfl) T.b_tuple (by decide +kernel) (pa_cons (pv 2) pa_nil)) pa_nil))))))), ?_⟩
  rw [show (L2.start ["text", "line", "told", "e"] [.str (S l), .int ln] : L2.St) = [some (.str (S l)), some (.int ln), none, none] from rfl]
  try simp only [WL.cxK]
  unfold outD at q
  walk_at "go"
  refine WExc.g_try ?_
  walk_at "go"
  refine WExc.g_callS ?_
  walk_at "go"
  refine ⟨l, ln, rfl, hl, fun col d H1 hc s1 hd => ?_, fun d H1 hc h40 s1 hd => ?_, fun p H1 hc h40 np s1 ⟨ps, hp, hps, hrow⟩ => ?_⟩
  · rw [hc] at q
    refine ⟨true, T.em_BadText_BadText, fun _ a na => ?_, (fun h => by cases h)⟩
    walk_at "go"
    refine WExc.g_isD T.xe_BadText hd WExc.rel_ty T.ki_BadText_ValueError ?_
    walk_at "go"
    refine WExc.g_isD T.xe_BadText hd WExc.rel_ref T.ki_BadText_GatesError ?_
    walk_at "go"
    refine WExc.g_isD T.xe_BadText hd WExc.rel_ref T.ki_BadText_TooLarge ?_
    walk_at "go"
    refine WExc.g_xgo ?_
    walk_at "go"
    refine WExc.g_xg T.xf_BadText T.xn_BadText_line hd rfl ?_
    refine WExc.g_xgo ?_
    walk_at "go"
    refine WExc.g_xg T.xf_BadText T.xn_BadText_column hd rfl ?_
    walk_at "go"
    refine ⟨sz_le (n := 3) (by simp), fun t nt => ?_⟩
    exact q t _ (s1.trans (same_new nt)) (at3 upd_same (.s _) (.i _) (.i _))
  · rw [hc] at q
    dsimp only at q
    rw [if_pos h40] at q
    refine ⟨false, T.em_TooLarge_BadText, (fun h => by cases h), fun _ => ?_⟩
    refine ⟨true, T.em_TooLarge_TooLarge, fun _ a na => ?_, (fun h => by cases h)⟩
    walk_at "go"
    refine WExc.g_isD T.xe_TooLarge hd WExc.rel_ty T.ki_TooLarge_ValueError ?_
    walk_at "go"
    refine WExc.g_isD T.xe_TooLarge hd WExc.rel_ref T.ki_TooLarge_GatesError ?_
    walk_at "go"
    refine WExc.g_isD T.xe_TooLarge hd WExc.rel_ref T.ki_TooLarge_BadText ?_
    walk_at "go"
    refine WExc.g_xgo ?_
    walk_at "go"
    refine WExc.g_xg T.xf_TooLarge T.xn_TooLarge_what hd rfl ?_
    refine WExc.g_xgo ?_
    walk_at "go"
    refine WExc.g_xg T.xf_TooLarge T.xn_TooLarge_limit hd rfl ?_
    walk_at "go"
    refine ⟨sz_le (n := 3) (by simp), fun t nt => ?_⟩
    exact q t _ (s1.trans (same_new nt)) (at3 upd_same (.s _) (.s _) (.i _))
  · rw [hc] at q
    dsimp only at q
    rw [if_neg (by omega)] at q
    have hn : (sc l 0).1.length ≤ 100 := Nat.le_trans sc_len hl
    have hlen := congrArg List.length hps
    rw [List.length_map] at hlen
    walk_at "go"
    refine g_isiB (.base (.lst hp)) (b := true) (by decide +kernel) ?_
    walk_at "go"
    refine ⟨p, _, rfl, .inl ⟨SqL.of hp, fun t nt => ?_⟩⟩
    walk_at "go"
    refine ⟨sz_le (n := 2) (by simp), fun u nu => ?_⟩
    have e1 := atL (H := upd (upd H1 t (.tup (ps.map fun r => V.ref r.1))) u (.tup [V.str (Str.ofString "list"), V.ref t])) (p := t) (ps := ps) (by rw [upd_ne (ne_of_none upd_same nu)]; exact upd_same) (by omega) fun r hr => ((same_new nt).trans (same_new nu)) _ _ (hrow r hr).1
    rw [hps] at e1
    exact q u _ (s1.trans ((same_new nt).trans (same_new nu))) (at2 upd_same (.s _) e1)
theorem ok__law_alike (T : Txt K mg dA) {n : Nat} (c__law_alike : C8.Cal P w K mg base (n) "_law_alike" (spAlike n) []) {f : Addr} {fd : FuncData} (F : Fun K "_law_alike" "_law_alike" s__law_alike f fd) : FnOk P w K mg base CX0 (n + 1) f fd ["actual", "due"] (spAlike (n + 1)) := by
  refine F.ok sc__law_alike (fun vs H Q E h => ?_) (fun cdv A outer s H vs Q E hr h => ?_)
  · obtain ⟨v1, v2, d, rfl, _⟩ := h
    rfl
  obtain ⟨v1, v2, d, rfl, h1, h2, hd, q⟩ := h
  refine ⟨_, (pss_cons (ps_if (pt_val (pe_callB (kcall_isi K) (by rfl) T.b_isinstance (by decide +kernel) (pa_cons (pv 1) (pa_cons (pe_bltn (v := .ty "tuple") (by rfl) T.b_tuple (by decide +kernel) rfl) pa_nil)))) (pss_cons (ps_if (PW.pt (pw_or (pt_not (pt_val (pe_callB (kcall_isi K) (by rfl) T.b_isinstance (by decide +kernel) (pa_cons (pv 0) (pa_cons (pe_bltn (v := .ty "tuple") (by rfl) T.b_tuple (by decide +kernel) rfl) pa_nil))))) (pw_or1 (pt_cmpR op_ne (pe_callB (kcall_len_seq K) (by rfl) T.b_len (by decide +kernel) (pa_cons (pv 0) pa_nil)) (pe_callB (kcall_len_seq K) (by rfl) T.b_len (by decide +kernel) (pa_cons (pv 1) pa_nil)) (nomark _))))) (pss_one (ps_ret pe_bl)) pss_nil)
      (pss_cons (ps_for PassesOwn.never rfl (pi_range1 (by rfl) T.b_range (pa_cons (pe_callB (kcall_len_seq K) (by rfl) T.b_len (by decide +kernel) (pa_cons (pv 1) pa_nil)) pa_nil)) (pg_name (i := 2) sc__law_alike.nd rfl (.inl rfl)) (pss_one (ps_if (pt_not (pt_val (C8.pe_c c__law_alike hr (Nat.le_refl _) (by rfl) (pa_cons (pe_ix (kix_tup K) (pv 0) (pv 2) (fun _ _ => rfl)) (pa_cons (pe_ix (kix_tup K) (pv 1) (pv 2) (fun _ _ => rfl)) pa_nil))))) (pss_one (ps_ret pe_bl)) pss_nil)))
      (pss_one (ps_ret pe_bl)))) pss_nil)
      (pss_cons (ps_if (pt_val (pe_callB (kcall_isi K) (by rfl) T.b_isinstance (by decide +kernel) (pa_cons (pv 1) (pa_cons (pe_bltn (v := .ty "int") (by rfl) T.b_int (by decide +kernel) rfl) pa_nil)))) (pss_one (ps_ret (pe_and (pe_callB (kcall_isi K) (by rfl) T.b_isinstance (by decide +kernel) (pa_cons (pv 0) (pa_cons (pe_bltn (v := .ty "int") (by rfl) T.b_int (by decide +kernel) rfl) pa_nil))) (pe_and (pe_not (pe_callB (kcall_isi K) (by rfl) T.b_isinstance (by decide +kernel) (pa_cons (pv 0) (pa_cons (pe_bltn (v := .ty "bool") (by rfl) T.b_bool (by decide +kernel) rfl) pa_nil)))) (pe_one (pe_cmpR op_eq (pv 0) (pv 1) (nomark _))))))) pss_nil)
      (pss_one (ps_ret (pe_and (pe_callB (kcall_isi K) (by rfl) T.b_isinstance (by decide +kernel) (pa_cons (pv 0) (pa_cons (pe_bltn (v := .ty "str") (by rfl) T.b_str (by decide +kernel) rfl) pa_nil))) (pe_one (pe_cmpR op_eq (pv 0) (pv 1) (nomark _)))))))), ?_⟩
  rw [show (L2.start ["actual", "due", "k"] [v1, v2] : L2.St) = [some (v1), some (v2), none] from rfl]
  try simp only [WL.cxK]
  cases h2 with
  | i z =>
    cases h1
    walk_at "go"
    rw [decide_eq_true rfl]
    exact q
  | s x =>
    cases h1
    walk_at "go"
    rw [decide_eq_true rfl]
    exact q
  | @t p2 ys ds hp2 hl2 hz hi2 =>
    cases h1 with
    | @t p1 xs _ hp1 hl1 _ hi1 =>
    walk_at "go"
    refine g_isiB (.base (.tup hp2)) (b := true) (by decide +kernel) ?_
    walk_at "go"
    refine g_isiB (.base (.tup hp1)) (b := true) (by decide +kernel) ?_
    walk_at "go"
    refine g_iteNI (fun h => absurd (by rw [hl1, hl2]) h) (fun _ => ?_)
    walk_at "go"
    refine f_rng1 (z := (ys.length : Int)) (by omega) (by omega) (fun i σ' H' => ∃ (y : Option V), σ' = [some (.ref p1), some (.ref p2), y] ∧ H' = H) ⟨none, rfl, rfl⟩ (fun i σ' H' hi hP => ?_) (fun σ' H' hP => ?_)
    · obtain ⟨y, rfl, rfl⟩ := hP
      have hy : i < ys.length := by omega
      have hx : i < xs.length := by omega
      have hdl : i < ds.length := by omega
      have a1 := hi1 i _ _ (List.getElem?_eq_getElem hx) (List.getElem?_eq_getElem hdl)
      have a2 := hi2 i _ _ (List.getElem?_eq_getElem hy) (List.getElem?_eq_getElem hdl)
      walk_at "go"
      refine g_ixT (SqT.of hp1) (atI_of hx) ?_
      walk_at "go"
      refine g_ixT (SqT.of hp2) (atI_of hy) ?_
      walk_at "go"
      have hdd := hd _ (List.getElem_mem hdl)
      cases n with
      | zero => exact hdd.elim
      | succ n =>
        refine ⟨_, _, _, rfl, a1, a2, hdd, ?_⟩
        walk_at "go"
        exact ⟨_, rfl, rfl⟩
    · obtain ⟨y, rfl, rfl⟩ := hP
      walk_at "go"
      exact q
theorem ok_law (T : Txt K mg dA) (c__law_bag : C8.Cal P w K mg base 1 "_law_bag" (spBag K) []) (c__law_line : C8.Cal P w K mg base 5 "_law_line" spLine []) (c__law_alike : C8.Cal P w K mg base 4 "_law_alike" (spAlike 4) []) (c__law_draw : C8.Cal P w K mg base 1 "_law_draw" spDraw []) (c__law_answer : C8.Cal P w K mg base 5 "_law_answer" spAnswer []) (c__law_due : C8.Cal P w K mg base 3 "_law_due" spDue []) {f : Addr} {fd : FuncData} (F : Fun K "law" "law" s_law f fd) : FnOk P w K mg base CX0 6 f fd ["script"] (spLaw K) := by
  refine F.ok sc_law (fun vs H Q E h => ?_) (fun cdv A outer s H vs Q E hr h => ?_)
  · obtain ⟨a, ns, rfl, _⟩ := h
    rfl
  obtain ⟨a, ns, rfl, hS, hl, q⟩ := h
  refine ⟨_, (pss_cons (ps_set (i := 1) sc_law.nd rfl (.inl rfl) (C8.pe_c c__law_bag hr (by decide) (by rfl) (pa_cons (pv 0) pa_nil)))
      (pss_cons (ps_set (i := 2) sc_law.nd rfl (.inl rfl) (pe_op op_add pe_int (C8.pe_c c__law_draw hr (by decide) (by rfl) (pa_cons (pv 1) (pa_cons pe_int pa_nil)))))
      (pss_cons (ps_set (i := 3) sc_law.nd rfl (.inl rfl) (C8.pe_c c__law_line hr (by decide) (by rfl) (pa_cons (pv 1) pa_nil)))
      (pss_one (ps_ret (C8.pe_c c__law_alike hr (by decide) (by rfl) (pa_cons (C8.pe_c c__law_answer hr (by decide) (by rfl) (pa_cons (pv 3) (pa_cons (pv 2) pa_nil))) (pa_cons (C8.pe_c c__law_due hr (by decide) (by rfl) (pa_cons (pv 3) (pa_cons (pv 2) pa_nil))) pa_nil)))))))), ?_⟩
  rw [show (L2.start ["script", "bag", "line", "text"] [.ref a] : L2.St) = [some (.ref a), none, none, none] from rfl]
  try simp only [WL.cxK]
  walk_at "go"
  refine ⟨a, ns, rfl, hS, hl, fun c b H1 _ _ s1 B1 => ?_⟩
  walk_at "go"
  refine g_draw B1 (by omega) (by decide) (by decide) fun d H2 d0 d1 k2 B2 => ?_
  walk_at "go"
  refine ⟨b, c, _, rfl, B2, by omega, fun l H3 hl3 k3 B3 => ?_⟩
  walk_at "go"
  refine ⟨l, 1 + d, rfl, hl3, fun p4 H4 s4 a4 => ?_⟩
  walk_at "go"
  refine ⟨l, 1 + d, rfl, hl3, fun p5 H5 s5 a5 => ?_⟩
  walk_at "go"
  exact ⟨_, _, _, rfl, a4.same s5, a5, out_deep l (1 + d), q H5⟩
end
end K01
set_option Elab.async false
set_option linter.all false
set_option maxRecDepth 100000
set_option maxHeartbeats 4000000
namespace K01
open PySem PySem.Spec PyProof.Rows L2 WL SX
theorem all_mk {l : PySem.W.OpenLaw} {w : World} {K : PySem.W.Frag} {h : Heap} {mg : Str → Option Value} {fa f0 f1 f2 f3 f4 f5 f6 f7 f8 f9 f10 f11 f12 f13 f14 f15 f16 f17 f18 f19 f20 f21 f22 : Addr} (X : K.In h) (G : h.Ns mainGlobals mg) (hfa : mg "law" = some (.ref fa))
    {od0 an0 od1 an1 od2 an2 od3 an3 od4 an4 od5 an5 od6 an6 od7 an7 od8 an8 od9 an9 od10 an10 od11 an11 od12 an12 od13 an13 od14 an14 od15 an15 od16 an16 od17 an17 od18 an18 od19 an19 od20 an20 od21 an21 od22 an22 : Option Addr} {sl0 sl1 sl2 sl3 sl4 sl5 sl6 sl7 sl8 sl9 sl10 sl11 sl12 sl13 sl14 sl15 sl16 sl17 sl18 sl19 sl20 sl21 sl22 : Array (Option Value)} {oc0 kV0 dc0 pm0 cd0 ct0 oc1 kV1 dc1 pm1 cd1 ct1 oc2 kV2 dc2 pm2 cd2 ct2 oc3 kV3 dc3 pm3 cd3 ct3 oc4 kV4 dc4 pm4 cd4 ct4 oc5 kV5 dc5 pm5 cd5 ct5 oc6 kV6 dc6 pm6 cd6 ct6 oc7 kV7 dc7 pm7 cd7 ct7 oc8 kV8 dc8 pm8 cd8 ct8 oc9 kV9 dc9 pm9 cd9 ct9 oc10 kV10 dc10 pm10 cd10 ct10 oc11 kV11 dc11 pm11 cd11 ct11 oc12 kV12 dc12 pm12 cd12 ct12 oc13 kV13 dc13 pm13 cd13 ct13 oc14 kV14 dc14 pm14 cd14 ct14 oc15 kV15 dc15 pm15 cd15 ct15 oc16 kV16 dc16 pm16 cd16 ct16 oc17 kV17 dc17 pm17 cd17 ct17 oc18 kV18 dc18 pm18 cd18 ct18 oc19 kV19 dc19 pm19 cd19 ct19 oc20 kV20 dc20 pm20 cd20 ct20 oc21 kV21 dc21 pm21 cd21 ct21 oc22 kV22 dc22 pm22 cd22 ct22 : Value}
    (a0 : PySem.W.nsIn K mainGlobals "_written" = some (some (.ref f0))) (l0 : K.lookup f0 = some ⟨oc0, od0, .func (PySem.W.fnOf "_written" "_written" (defArgs s__written) (defBody s__written) (defScope s__written) .none kV0 dc0 pm0 an0 cd0 ct0), sl0⟩) (c0 : PySem.W.codeIn K cd0 "_written" = true) (k0 : PySem.W.keepIn K (.ref f0) = true)
    (a1 : PySem.W.nsIn K mainGlobals "tokens" = some (some (.ref f1))) (l1 : K.lookup f1 = some ⟨oc1, od1, .func (PySem.W.fnOf "tokens" "tokens" (defArgs s_tokens) (defBody s_tokens) (defScope s_tokens) .none kV1 dc1 pm1 an1 cd1 ct1), sl1⟩) (c1 : PySem.W.codeIn K cd1 "tokens" = true) (k1 : PySem.W.keepIn K (.ref f1) = true)
    (a2 : PySem.W.nsIn K mainGlobals "_end_of_token" = some (some (.ref f2))) (l2 : K.lookup f2 = some ⟨oc2, od2, .func (PySem.W.fnOf "_end_of_token" "_end_of_token" (defArgs s__end_of_token) (defBody s__end_of_token) (defScope s__end_of_token) .none kV2 dc2 pm2 an2 cd2 ct2), sl2⟩) (c2 : PySem.W.codeIn K cd2 "_end_of_token" = true) (k2 : PySem.W.keepIn K (.ref f2) = true)
    (a3 : PySem.W.nsIn K mainGlobals "_end_of_run" = some (some (.ref f3))) (l3 : K.lookup f3 = some ⟨oc3, od3, .func (PySem.W.fnOf "_end_of_run" "_end_of_run" (defArgs s__end_of_run) (defBody s__end_of_run) (defScope s__end_of_run) .none kV3 dc3 pm3 an3 cd3 ct3), sl3⟩) (c3 : PySem.W.codeIn K cd3 "_end_of_run" = true) (k3 : PySem.W.keepIn K (.ref f3) = true)
    (a4 : PySem.W.nsIn K mainGlobals "_kind_of" = some (some (.ref f4))) (l4 : K.lookup f4 = some ⟨oc4, od4, .func (PySem.W.fnOf "_kind_of" "_kind_of" (defArgs s__kind_of) (defBody s__kind_of) (defScope s__kind_of) .none kV4 dc4 pm4 an4 cd4 ct4), sl4⟩) (c4 : PySem.W.codeIn K cd4 "_kind_of" = true) (k4 : PySem.W.keepIn K (.ref f4) = true)
    (a5 : PySem.W.nsIn K mainGlobals "_is_number" = some (some (.ref f5))) (l5 : K.lookup f5 = some ⟨oc5, od5, .func (PySem.W.fnOf "_is_number" "_is_number" (defArgs s__is_number) (defBody s__is_number) (defScope s__is_number) .none kV5 dc5 pm5 an5 cd5 ct5), sl5⟩) (c5 : PySem.W.codeIn K cd5 "_is_number" = true) (k5 : PySem.W.keepIn K (.ref f5) = true)
    (a6 : PySem.W.nsIn K mainGlobals "_law_bag" = some (some (.ref f6))) (l6 : K.lookup f6 = some ⟨oc6, od6, .func (PySem.W.fnOf "_law_bag" "_law_bag" (defArgs s__law_bag) (defBody s__law_bag) (defScope s__law_bag) .none kV6 dc6 pm6 an6 cd6 ct6), sl6⟩) (c6 : PySem.W.codeIn K cd6 "_law_bag" = true) (k6 : PySem.W.keepIn K (.ref f6) = true)
    (a7 : PySem.W.nsIn K mainGlobals "_law_draw" = some (some (.ref f7))) (l7 : K.lookup f7 = some ⟨oc7, od7, .func (PySem.W.fnOf "_law_draw" "_law_draw" (defArgs s__law_draw) (defBody s__law_draw) (defScope s__law_draw) .none kV7 dc7 pm7 an7 cd7 ct7), sl7⟩) (c7 : PySem.W.codeIn K cd7 "_law_draw" = true) (k7 : PySem.W.keepIn K (.ref f7) = true)
    (a8 : PySem.W.nsIn K mainGlobals "_law_keywords" = some (some (.ref f8))) (l8 : K.lookup f8 = some ⟨oc8, od8, .func (PySem.W.fnOf "_law_keywords" "_law_keywords" (defArgs s__law_keywords) (defBody s__law_keywords) (defScope s__law_keywords) .none kV8 dc8 pm8 an8 cd8 ct8), sl8⟩) (c8 : PySem.W.codeIn K cd8 "_law_keywords" = true) (k8 : PySem.W.keepIn K (.ref f8) = true)
    (a9 : PySem.W.nsIn K mainGlobals "_law_symbols" = some (some (.ref f9))) (l9 : K.lookup f9 = some ⟨oc9, od9, .func (PySem.W.fnOf "_law_symbols" "_law_symbols" (defArgs s__law_symbols) (defBody s__law_symbols) (defScope s__law_symbols) .none kV9 dc9 pm9 an9 cd9 ct9), sl9⟩) (c9 : PySem.W.codeIn K cd9 "_law_symbols" = true) (k9 : PySem.W.keepIn K (.ref f9) = true)
    (a10 : PySem.W.nsIn K mainGlobals "_law_signs" = some (some (.ref f10))) (l10 : K.lookup f10 = some ⟨oc10, od10, .func (PySem.W.fnOf "_law_signs" "_law_signs" (defArgs s__law_signs) (defBody s__law_signs) (defScope s__law_signs) .none kV10 dc10 pm10 an10 cd10 ct10), sl10⟩) (c10 : PySem.W.codeIn K cd10 "_law_signs" = true) (k10 : PySem.W.keepIn K (.ref f10) = true)
    (a11 : PySem.W.nsIn K mainGlobals "_law_chars" = some (some (.ref f11))) (l11 : K.lookup f11 = some ⟨oc11, od11, .func (PySem.W.fnOf "_law_chars" "_law_chars" (defArgs s__law_chars) (defBody s__law_chars) (defScope s__law_chars) .none kV11 dc11 pm11 an11 cd11 ct11), sl11⟩) (c11 : PySem.W.codeIn K cd11 "_law_chars" = true) (k11 : PySem.W.keepIn K (.ref f11) = true)
    (a12 : PySem.W.nsIn K mainGlobals "_law_odd" = some (some (.ref f12))) (l12 : K.lookup f12 = some ⟨oc12, od12, .func (PySem.W.fnOf "_law_odd" "_law_odd" (defArgs s__law_odd) (defBody s__law_odd) (defScope s__law_odd) .none kV12 dc12 pm12 an12 cd12 ct12), sl12⟩) (c12 : PySem.W.codeIn K cd12 "_law_odd" = true) (k12 : PySem.W.keepIn K (.ref f12) = true)
    (a13 : PySem.W.nsIn K mainGlobals "_law_good" = some (some (.ref f13))) (l13 : K.lookup f13 = some ⟨oc13, od13, .func (PySem.W.fnOf "_law_good" "_law_good" (defArgs s__law_good) (defBody s__law_good) (defScope s__law_good) .none kV13 dc13 pm13 an13 cd13 ct13), sl13⟩) (c13 : PySem.W.codeIn K cd13 "_law_good" = true) (k13 : PySem.W.keepIn K (.ref f13) = true)
    (a14 : PySem.W.nsIn K mainGlobals "_law_pieces" = some (some (.ref f14))) (l14 : K.lookup f14 = some ⟨oc14, od14, .func (PySem.W.fnOf "_law_pieces" "_law_pieces" (defArgs s__law_pieces) (defBody s__law_pieces) (defScope s__law_pieces) .none kV14 dc14 pm14 an14 cd14 ct14), sl14⟩) (c14 : PySem.W.codeIn K cd14 "_law_pieces" = true) (k14 : PySem.W.keepIn K (.ref f14) = true)
    (a15 : PySem.W.nsIn K mainGlobals "_law_line" = some (some (.ref f15))) (l15 : K.lookup f15 = some ⟨oc15, od15, .func (PySem.W.fnOf "_law_line" "_law_line" (defArgs s__law_line) (defBody s__law_line) (defScope s__law_line) .none kV15 dc15 pm15 an15 cd15 ct15), sl15⟩) (c15 : PySem.W.codeIn K cd15 "_law_line" = true) (k15 : PySem.W.keepIn K (.ref f15) = true)
    (a16 : PySem.W.nsIn K mainGlobals "_law_end" = some (some (.ref f16))) (l16 : K.lookup f16 = some ⟨oc16, od16, .func (PySem.W.fnOf "_law_end" "_law_end" (defArgs s__law_end) (defBody s__law_end) (defScope s__law_end) .none kV16 dc16 pm16 an16 cd16 ct16), sl16⟩) (c16 : PySem.W.codeIn K cd16 "_law_end" = true) (k16 : PySem.W.keepIn K (.ref f16) = true)
    (a17 : PySem.W.nsIn K mainGlobals "_law_number_is_good" = some (some (.ref f17))) (l17 : K.lookup f17 = some ⟨oc17, od17, .func (PySem.W.fnOf "_law_number_is_good" "_law_number_is_good" (defArgs s__law_number_is_good) (defBody s__law_number_is_good) (defScope s__law_number_is_good) .none kV17 dc17 pm17 an17 cd17 ct17), sl17⟩) (c17 : PySem.W.codeIn K cd17 "_law_number_is_good" = true) (k17 : PySem.W.keepIn K (.ref f17) = true)
    (a18 : PySem.W.nsIn K mainGlobals "_law_scan" = some (some (.ref f18))) (l18 : K.lookup f18 = some ⟨oc18, od18, .func (PySem.W.fnOf "_law_scan" "_law_scan" (defArgs s__law_scan) (defBody s__law_scan) (defScope s__law_scan) .none kV18 dc18 pm18 an18 cd18 ct18), sl18⟩) (c18 : PySem.W.codeIn K cd18 "_law_scan" = true) (k18 : PySem.W.keepIn K (.ref f18) = true)
    (a19 : PySem.W.nsIn K mainGlobals "_law_due" = some (some (.ref f19))) (l19 : K.lookup f19 = some ⟨oc19, od19, .func (PySem.W.fnOf "_law_due" "_law_due" (defArgs s__law_due) (defBody s__law_due) (defScope s__law_due) .none kV19 dc19 pm19 an19 cd19 ct19), sl19⟩) (c19 : PySem.W.codeIn K cd19 "_law_due" = true) (k19 : PySem.W.keepIn K (.ref f19) = true)
    (a20 : PySem.W.nsIn K mainGlobals "_law_answer" = some (some (.ref f20))) (l20 : K.lookup f20 = some ⟨oc20, od20, .func (PySem.W.fnOf "_law_answer" "_law_answer" (defArgs s__law_answer) (defBody s__law_answer) (defScope s__law_answer) .none kV20 dc20 pm20 an20 cd20 ct20), sl20⟩) (c20 : PySem.W.codeIn K cd20 "_law_answer" = true) (k20 : PySem.W.keepIn K (.ref f20) = true)
    (a21 : PySem.W.nsIn K mainGlobals "_law_alike" = some (some (.ref f21))) (l21 : K.lookup f21 = some ⟨oc21, od21, .func (PySem.W.fnOf "_law_alike" "_law_alike" (defArgs s__law_alike) (defBody s__law_alike) (defScope s__law_alike) .none kV21 dc21 pm21 an21 cd21 ct21), sl21⟩) (c21 : PySem.W.codeIn K cd21 "_law_alike" = true) (k21 : PySem.W.keepIn K (.ref f21) = true)
    (a22 : PySem.W.nsIn K mainGlobals "law" = some (some (.ref f22))) (l22 : K.lookup f22 = some ⟨oc22, od22, .func (PySem.W.fnOf "law" "law" (defArgs s_law) (defBody s_law) (defScope s_law) .none kV22 dc22 pm22 an22 cd22 ct22), sl22⟩) (c22 : PySem.W.codeIn K cd22 "law" = true) (k22 : PySem.W.keepIn K (.ref f22) = true)
    (z_ValueError : PySem.W.nsIn K mainGlobals "ValueError" = some none)
    (z_bool : PySem.W.nsIn K mainGlobals "bool" = some none)
    (z_int : PySem.W.nsIn K mainGlobals "int" = some none)
    (z_isinstance : PySem.W.nsIn K mainGlobals "isinstance" = some none)
    (z_len : PySem.W.nsIn K mainGlobals "len" = some none)
    (z_list : PySem.W.nsIn K mainGlobals "list" = some none)
    (z_range : PySem.W.nsIn K mainGlobals "range" = some none)
    (z_str : PySem.W.nsIn K mainGlobals "str" = some none)
    (z_tuple : PySem.W.nsIn K mainGlobals "tuple" = some none)
    {gt_LARGE : Tok} (gg_LARGE : PySem.W.nsIn K mainGlobals "LARGE" = some (some (.int (1000000000000000000) gt_LARGE)))
    {gd0 : Addr} {gdd0 : Option Addr} {gn0 : Nat} {gsl0 : Array (Option Value)} {gt0_0 gt0_1 gt0_2 gt0_3 gt0_4 gt0_5 gt0_6 gt0_7 gt0_8 gt0_9 gt0_10 gt0_11 gt0_12 gt0_13 gt0_14 gt0_15 gt0_16 gt0_17 gt0_18 gt0_19 gt0_20 gt0_21 : Tok} (gg_KEYWORDS : PySem.W.nsIn K mainGlobals "KEYWORDS" = some (some (.ref gd0))) (gl_KEYWORDS : K.lookup gd0 = some ⟨.type "tuple", gdd0, .seq #[.str (Str.ofString "module") gt0_0, .str (Str.ofString "end") gt0_1, .str (Str.ofString "in") gt0_2, .str (Str.ofString "out") gt0_3, .str (Str.ofString "wire") gt0_4, .str (Str.ofString "reg") gt0_5, .str (Str.ofString "mem") gt0_6, .str (Str.ofString "use") gt0_7, .str (Str.ofString "as") gt0_8, .str (Str.ofString "each") gt0_9, .str (Str.ofString "from") gt0_10, .str (Str.ofString "to") gt0_11, .str (Str.ofString "when") gt0_12, .str (Str.ofString "always") gt0_13, .str (Str.ofString "if") gt0_14, .str (Str.ofString "then") gt0_15, .str (Str.ofString "else") gt0_16, .str (Str.ofString "within") gt0_17, .str (Str.ofString "all") gt0_18, .str (Str.ofString "any") gt0_19, .str (Str.ofString "odd") gt0_20, .str (Str.ofString "promise") gt0_21] gn0, gsl0⟩)
    {gt_LETTERS : Tok} (gg_LETTERS : PySem.W.nsIn K mainGlobals "LETTERS" = some (some (.str (Str.ofString "abcdefghijklmnopqrstuvwxyz") gt_LETTERS)))
    {gt_DIGITS : Tok} (gg_DIGITS : PySem.W.nsIn K mainGlobals "DIGITS" = some (some (.str (Str.ofString "0123456789") gt_DIGITS)))
    {gt_WORD_SIGNS : Tok} (gg_WORD_SIGNS : PySem.W.nsIn K mainGlobals "WORD_SIGNS" = some (some (.str (Str.ofString "abcdefghijklmnopqrstuvwxyz0123456789_") gt_WORD_SIGNS)))
    {gd1 : Addr} {gdd1 : Option Addr} {gn1 : Nat} {gsl1 : Array (Option Value)} {gt1_0 gt1_1 gt1_2 gt1_3 gt1_4 gt1_5 : Tok} (gg_DOUBLE_SYMBOLS : PySem.W.nsIn K mainGlobals "DOUBLE_SYMBOLS" = some (some (.ref gd1))) (gl_DOUBLE_SYMBOLS : K.lookup gd1 = some ⟨.type "tuple", gdd1, .seq #[.str (Str.ofString "<=") gt1_0, .str (Str.ofString "==") gt1_1, .str (Str.ofString "!=") gt1_2, .str (Str.ofString ">=") gt1_3, .str (Str.ofString "<<") gt1_4, .str (Str.ofString ">>") gt1_5] gn1, gsl1⟩)
    {gt_SINGLE_SYMBOLS : Tok} (gg_SINGLE_SYMBOLS : PySem.W.nsIn K mainGlobals "SINGLE_SYMBOLS" = some (some (.str (Str.ofString "()[]{},:.=<+-*&|^~#@") gt_SINGLE_SYMBOLS)))
    {gt_MOST_TOKENS : Tok} (gg_MOST_TOKENS : PySem.W.nsIn K mainGlobals "MOST_TOKENS" = some (some (.int (40) gt_MOST_TOKENS)))
    {gt_LONGEST_NAME : Tok} (gg_LONGEST_NAME : PySem.W.nsIn K mainGlobals "LONGEST_NAME" = some (some (.int (16) gt_LONGEST_NAME)))
    {gt_LONGEST_NUMBER : Tok} (gg_LONGEST_NUMBER : PySem.W.nsIn K mainGlobals "LONGEST_NUMBER" = some (some (.int (5) gt_LONGEST_NUMBER)))
    {gt_GREATEST_NUMBER : Tok} (gg_GREATEST_NUMBER : PySem.W.nsIn K mainGlobals "GREATEST_NUMBER" = some (some (.int (65535) gt_GREATEST_NUMBER)))
    {eC_BadText eI_BadText cc_BadText cda_BadText N_BadText : Addr} {nm_BadText q_BadText file_BadText : Str} {tf_BadText : Tok} {bs_BadText bm_BadText sub_BadText : List Value} {sn_BadText : List Str} {ab_BadText : Bool} {col_BadText : Option Bool} {dd_BadText od_BadText an_BadText cld_BadText cdd_BadText : Option Addr} {m0_BadText m1_BadText m2_BadText m3_BadText m5_BadText : Option Value} {sl_BadText csl_BadText ccs_BadText : Array (Option Value)} {oc_BadText kV_BadText dc_BadText pm_BadText ct_BadText cl_BadText ccl_BadText : Value} {vs_BadText : Array Value}
    (xa_BadText : PySem.W.nsIn K mainGlobals "BadText" = some (some (.ref eC_BadText)))
    (xl_BadText : K.lookup eC_BadText = some (excClassObj nm_BadText q_BadText eC_BadText N_BadText bs_BadText bm_BadText true sn_BadText sub_BadText ab_BadText col_BadText dd_BadText m0_BadText m1_BadText m2_BadText m3_BadText m5_BadText "ValueError.__new__"))
    (xr_BadText : PySem.HandSPX.refsVE bm_BadText = true)
    (xs_BadText : PySem.W.findIn K (.ref eC_BadText) "__setattr__" = some (some (.builtin "object.__setattr__")))
    (xga_BadText : PySem.W.findIn K (.ref eC_BadText) "__getattribute__" = some (some (.builtin "BaseException.__getattribute__")))
    (xgg_BadText : PySem.W.findIn K (.ref eC_BadText) "__getattr__" = some none)
    (xcl_BadText : PySem.W.findIn K (.ref eC_BadText) "__class__" = some (some (.builtin "object.__class__")))
    (xm_BadText : PySem.W.mroIn K eC_BadText (.type "object") = some true)
    (xi_BadText : PySem.W.findIn K (.ref eC_BadText) "__init__" = some (some (.ref eI_BadText)))
    (xt_BadText : PySem.W.typeIn K (.ref eI_BadText) = some (.type "function"))
    (xf_BadText : K.lookup eI_BadText = some (⟨oc_BadText, od_BadText, .func (PySem.W.fnX "__init__" "BadText.__init__" (defArgs s_BadText___init__) (defBody s_BadText___init__) (defScope s_BadText___init__) [("__class__", cc_BadText)] .none kV_BadText dc_BadText pm_BadText an_BadText (.ref cda_BadText) ct_BadText), sl_BadText⟩ : Obj))
    (xc_BadText : PySem.W.codeIn K (.ref cda_BadText) "BadText.__init__" = true)
    (xk_BadText : PySem.W.keepIn K (.ref eC_BadText) = true)
    (xe_BadText : PySem.W.subIn K (.ref eC_BadText) (.type "BaseException") = some true)
    (xy_BadText : PySem.W.typeIn K (.ref eC_BadText) = some (.type "type"))
    (xh_BadText : PySem.W.hasDictIn K eC_BadText = true)
    (xj_BadText : PySem.W.isClsIn K eC_BadText = true)
    (xcell_BadText : K.lookup cc_BadText = some (⟨cl_BadText, cld_BadText, .cell (some (.ref eC_BadText)), csl_BadText⟩ : Obj))
    (xcode_BadText : K.lookup cda_BadText = some (⟨ccl_BadText, cdd_BadText, .fields vs_BadText, ccs_BadText⟩ : Obj))
    (xv_BadText : vs_BadText[2]? = some (.str file_BadText tf_BadText))
    (xfe_BadText : ((l.prog.main.file : Str) == file_BadText) = true)
    (xsup_BadText : PySem.W.ks_superIn K eC_BadText eC_BadText "__init__" = some (some (.builtin "ValueError.__init__")))
    (xn_line_BadText : PySem.W.findIn K (.ref eC_BadText) "line" = some none)
    (xn_column_BadText : PySem.W.findIn K (.ref eC_BadText) "column" = some none)
    {eC_TooLarge eI_TooLarge cc_TooLarge cda_TooLarge N_TooLarge : Addr} {nm_TooLarge q_TooLarge file_TooLarge : Str} {tf_TooLarge : Tok} {bs_TooLarge bm_TooLarge sub_TooLarge : List Value} {sn_TooLarge : List Str} {ab_TooLarge : Bool} {col_TooLarge : Option Bool} {dd_TooLarge od_TooLarge an_TooLarge cld_TooLarge cdd_TooLarge : Option Addr} {m0_TooLarge m1_TooLarge m2_TooLarge m3_TooLarge m5_TooLarge : Option Value} {sl_TooLarge csl_TooLarge ccs_TooLarge : Array (Option Value)} {oc_TooLarge kV_TooLarge dc_TooLarge pm_TooLarge ct_TooLarge cl_TooLarge ccl_TooLarge : Value} {vs_TooLarge : Array Value}
    (xa_TooLarge : PySem.W.nsIn K mainGlobals "TooLarge" = some (some (.ref eC_TooLarge)))
    (xl_TooLarge : K.lookup eC_TooLarge = some (excClassObj nm_TooLarge q_TooLarge eC_TooLarge N_TooLarge bs_TooLarge bm_TooLarge true sn_TooLarge sub_TooLarge ab_TooLarge col_TooLarge dd_TooLarge m0_TooLarge m1_TooLarge m2_TooLarge m3_TooLarge m5_TooLarge "ValueError.__new__"))
    (xr_TooLarge : PySem.HandSPX.refsVE bm_TooLarge = true)
    (xs_TooLarge : PySem.W.findIn K (.ref eC_TooLarge) "__setattr__" = some (some (.builtin "object.__setattr__")))
    (xga_TooLarge : PySem.W.findIn K (.ref eC_TooLarge) "__getattribute__" = some (some (.builtin "BaseException.__getattribute__")))
    (xgg_TooLarge : PySem.W.findIn K (.ref eC_TooLarge) "__getattr__" = some none)
    (xcl_TooLarge : PySem.W.findIn K (.ref eC_TooLarge) "__class__" = some (some (.builtin "object.__class__")))
    (xm_TooLarge : PySem.W.mroIn K eC_TooLarge (.type "object") = some true)
    (xi_TooLarge : PySem.W.findIn K (.ref eC_TooLarge) "__init__" = some (some (.ref eI_TooLarge)))
    (xt_TooLarge : PySem.W.typeIn K (.ref eI_TooLarge) = some (.type "function"))
    (xf_TooLarge : K.lookup eI_TooLarge = some (⟨oc_TooLarge, od_TooLarge, .func (PySem.W.fnX "__init__" "TooLarge.__init__" (defArgs s_TooLarge___init__) (defBody s_TooLarge___init__) (defScope s_TooLarge___init__) [("__class__", cc_TooLarge)] .none kV_TooLarge dc_TooLarge pm_TooLarge an_TooLarge (.ref cda_TooLarge) ct_TooLarge), sl_TooLarge⟩ : Obj))
    (xc_TooLarge : PySem.W.codeIn K (.ref cda_TooLarge) "TooLarge.__init__" = true)
    (xk_TooLarge : PySem.W.keepIn K (.ref eC_TooLarge) = true)
    (xe_TooLarge : PySem.W.subIn K (.ref eC_TooLarge) (.type "BaseException") = some true)
    (xy_TooLarge : PySem.W.typeIn K (.ref eC_TooLarge) = some (.type "type"))
    (xh_TooLarge : PySem.W.hasDictIn K eC_TooLarge = true)
    (xj_TooLarge : PySem.W.isClsIn K eC_TooLarge = true)
    (xcell_TooLarge : K.lookup cc_TooLarge = some (⟨cl_TooLarge, cld_TooLarge, .cell (some (.ref eC_TooLarge)), csl_TooLarge⟩ : Obj))
    (xcode_TooLarge : K.lookup cda_TooLarge = some (⟨ccl_TooLarge, cdd_TooLarge, .fields vs_TooLarge, ccs_TooLarge⟩ : Obj))
    (xv_TooLarge : vs_TooLarge[2]? = some (.str file_TooLarge tf_TooLarge))
    (xfe_TooLarge : ((l.prog.main.file : Str) == file_TooLarge) = true)
    (xsup_TooLarge : PySem.W.ks_superIn K eC_TooLarge eC_TooLarge "__init__" = some (some (.builtin "ValueError.__init__")))
    (xn_what_TooLarge : PySem.W.findIn K (.ref eC_TooLarge) "what" = some none)
    (xn_limit_TooLarge : PySem.W.findIn K (.ref eC_TooLarge) "limit" = some none)
    {eC_GatesError : Addr}
    (xa_GatesError : PySem.W.nsIn K mainGlobals "GatesError" = some (some (.ref eC_GatesError)))
    (xe_GatesError : PySem.W.subIn K (.ref eC_GatesError) (.type "BaseException") = some true)
    (xy_GatesError : PySem.W.typeIn K (.ref eC_GatesError) = some (.type "type"))
    (xh_GatesError : PySem.W.hasDictIn K eC_GatesError = true)
    (xj_GatesError : PySem.W.isClsIn K eC_GatesError = true)
    (ki_BadText_ValueError : PySem.W.subIn K (.ref eC_BadText) (.type "ValueError") = some true)
    (ki_BadText_GatesError : PySem.W.subIn K (.ref eC_BadText) (.ref eC_GatesError) = some true)
    (ki_BadText_TooLarge : PySem.W.subIn K (.ref eC_BadText) (.ref eC_TooLarge) = some false)
    (ne_BadText_TooLarge : (Value.ref eC_BadText == Value.ref eC_TooLarge) = false)
    (ki_TooLarge_ValueError : PySem.W.subIn K (.ref eC_TooLarge) (.type "ValueError") = some true)
    (ki_TooLarge_GatesError : PySem.W.subIn K (.ref eC_TooLarge) (.ref eC_GatesError) = some true)
    (ki_TooLarge_BadText : PySem.W.subIn K (.ref eC_TooLarge) (.ref eC_BadText) = some false)
    (ne_TooLarge_BadText : (Value.ref eC_TooLarge == Value.ref eC_BadText) = false)
    (em_BadText_BadText : PySem.W.subIn K (.ref eC_BadText) (.ref eC_BadText) = some true)
    (em_TooLarge_BadText : PySem.W.subIn K (.ref eC_TooLarge) (.ref eC_BadText) = some false)
    (em_TooLarge_TooLarge : PySem.W.subIn K (.ref eC_TooLarge) (.ref eC_TooLarge) = some true)
    (xopq : PySem.W.nsIn K PySem.cStatics "thirdparty.any" = some none)
    (xtop : (l.prog.main.scope.names.lookup ("super" : Str)).isSome = false)
    (xsu : PySem.W.nsIn K mainGlobals "super" = some none)
    (xhn : PySem.W.specialIn K (.builtin "object.__class__") "__get__" = some (some (.builtin "getset_descriptor.__get__")))
    (xht : PySem.W.takesIn K (.builtin "object.__class__") = some true)
    : ∃ fd : FuncData, (∀ (s : Shared) (v : Value), BindsTo s fd ⟨[v], []⟩ [("script", v)]) ∧ ∀ base : Heap, K.In base → base.Ns mainGlobals mg → FnOk l.prog w K mg base CX0 6 fa fd ["script"] (spLaw K) := by
  have e := hfa.symm.trans (PySem.W.mg_of X G a22)
  cases e
  have T : Txt K mg (fun n => match n with | 0 => gd0 | 1 => gd1 | 100 => eC_BadText | 101 => eC_TooLarge | 102 => eC_GatesError | _ => 0) := ⟨PySem.W.mg_none_of X G z_ValueError, PySem.W.mg_none_of X G z_bool, PySem.W.mg_none_of X G z_int, PySem.W.mg_none_of X G z_isinstance, PySem.W.mg_none_of X G z_len, PySem.W.mg_none_of X G z_list, PySem.W.mg_none_of X G z_range, PySem.W.mg_none_of X G z_str, PySem.W.mg_none_of X G z_tuple, ⟨_, PySem.W.mg_of X G gg_LARGE, ⟨_, rfl⟩⟩, ⟨_, PySem.W.mg_of X G gg_KEYWORDS, rfl⟩, fun H => .inr ⟨_, _, _, gl_KEYWORDS, rfl, rfl, sz_le (n := 22) (by decide), .cons ⟨_, rfl⟩ (.cons ⟨_, rfl⟩ (.cons ⟨_, rfl⟩ (.cons ⟨_, rfl⟩ (.cons ⟨_, rfl⟩ (.cons ⟨_, rfl⟩ (.cons ⟨_, rfl⟩ (.cons ⟨_, rfl⟩ (.cons ⟨_, rfl⟩ (.cons ⟨_, rfl⟩ (.cons ⟨_, rfl⟩ (.cons ⟨_, rfl⟩ (.cons ⟨_, rfl⟩ (.cons ⟨_, rfl⟩ (.cons ⟨_, rfl⟩ (.cons ⟨_, rfl⟩ (.cons ⟨_, rfl⟩ (.cons ⟨_, rfl⟩ (.cons ⟨_, rfl⟩ (.cons ⟨_, rfl⟩ (.cons ⟨_, rfl⟩ (.cons ⟨_, rfl⟩ (.nil))))))))))))))))))))))⟩, ⟨_, PySem.W.mg_of X G gg_LETTERS, ⟨_, rfl⟩⟩, ⟨_, PySem.W.mg_of X G gg_DIGITS, ⟨_, rfl⟩⟩, ⟨_, PySem.W.mg_of X G gg_WORD_SIGNS, ⟨_, rfl⟩⟩, ⟨_, PySem.W.mg_of X G gg_DOUBLE_SYMBOLS, rfl⟩, fun H => .inr ⟨_, _, _, gl_DOUBLE_SYMBOLS, rfl, rfl, sz_le (n := 6) (by decide), .cons ⟨_, rfl⟩ (.cons ⟨_, rfl⟩ (.cons ⟨_, rfl⟩ (.cons ⟨_, rfl⟩ (.cons ⟨_, rfl⟩ (.cons ⟨_, rfl⟩ (.nil))))))⟩, ⟨_, PySem.W.mg_of X G gg_SINGLE_SYMBOLS, ⟨_, rfl⟩⟩, ⟨_, PySem.W.mg_of X G gg_MOST_TOKENS, ⟨_, rfl⟩⟩, ⟨_, PySem.W.mg_of X G gg_LONGEST_NAME, ⟨_, rfl⟩⟩, ⟨_, PySem.W.mg_of X G gg_LONGEST_NUMBER, ⟨_, rfl⟩⟩, ⟨_, PySem.W.mg_of X G gg_GREATEST_NUMBER, ⟨_, rfl⟩⟩, PySem.W.mg_of X G xa_BadText, ⟨_, PySem.W.mg_of X G xa_BadText, rfl⟩, PySem.W.mg_of X G xa_TooLarge, ⟨_, PySem.W.mg_of X G xa_TooLarge, rfl⟩, PySem.W.mg_of X G xa_GatesError, ⟨_, PySem.W.mg_of X G xa_GatesError, rfl⟩, ⟨xga_BadText, xgg_BadText, xe_BadText, xh_BadText⟩, ⟨xga_BadText, xgg_BadText, xe_BadText, xh_BadText, xcl_BadText, xhn, xht, xm_BadText⟩, ⟨⟨_, _, _, _, _, _, _, _, _, _, _, _, _, _, _, xl_BadText, xr_BadText⟩, xs_BadText, xe_BadText, xy_BadText, xk_BadText⟩, xn_line_BadText, xn_column_BadText, ⟨xga_TooLarge, xgg_TooLarge, xe_TooLarge, xh_TooLarge⟩, ⟨xga_TooLarge, xgg_TooLarge, xe_TooLarge, xh_TooLarge, xcl_TooLarge, xhn, xht, xm_TooLarge⟩, ⟨⟨_, _, _, _, _, _, _, _, _, _, _, _, _, _, _, xl_TooLarge, xr_TooLarge⟩, xs_TooLarge, xe_TooLarge, xy_TooLarge, xk_TooLarge⟩, xn_what_TooLarge, xn_limit_TooLarge, WExc.kit_ty (by decide +kernel) ki_BadText_ValueError, WExc.kit_refT xj_GatesError xy_GatesError ki_BadText_GatesError, WExc.kit_refF xj_TooLarge xy_TooLarge ne_BadText_TooLarge ki_BadText_TooLarge, WExc.kit_ty (by decide +kernel) ki_TooLarge_ValueError, WExc.kit_refT xj_GatesError xy_GatesError ki_TooLarge_GatesError, WExc.kit_refF xj_BadText xy_BadText ne_TooLarge_BadText ki_TooLarge_BadText, PySem.W.exm_ref xe_BadText xh_BadText xy_BadText em_BadText_BadText, PySem.W.exm_ref xe_BadText xh_BadText xy_BadText em_TooLarge_BadText, PySem.W.exm_ref xe_TooLarge xh_TooLarge xy_TooLarge em_TooLarge_TooLarge⟩
  have F0 := fun_mk (st := s__written) l0 c0 k0
  have F1 := fun_mk (st := s_tokens) l1 c1 k1
  have F2 := fun_mk (st := s__end_of_token) l2 c2 k2
  have F3 := fun_mk (st := s__end_of_run) l3 c3 k3
  have F4 := fun_mk (st := s__kind_of) l4 c4 k4
  have F5 := fun_mk (st := s__is_number) l5 c5 k5
  have F6 := fun_mk (st := s__law_bag) l6 c6 k6
  have F7 := fun_mk (st := s__law_draw) l7 c7 k7
  have F8 := fun_mk (st := s__law_keywords) l8 c8 k8
  have F9 := fun_mk (st := s__law_symbols) l9 c9 k9
  have F10 := fun_mk (st := s__law_signs) l10 c10 k10
  have F11 := fun_mk (st := s__law_chars) l11 c11 k11
  have F12 := fun_mk (st := s__law_odd) l12 c12 k12
  have F13 := fun_mk (st := s__law_good) l13 c13 k13
  have F14 := fun_mk (st := s__law_pieces) l14 c14 k14
  have F15 := fun_mk (st := s__law_line) l15 c15 k15
  have F16 := fun_mk (st := s__law_end) l16 c16 k16
  have F17 := fun_mk (st := s__law_number_is_good) l17 c17 k17
  have F18 := fun_mk (st := s__law_scan) l18 c18 k18
  have F19 := fun_mk (st := s__law_due) l19 c19 k19
  have F20 := fun_mk (st := s__law_answer) l20 c20 k20
  have F21 := fun_mk (st := s__law_alike) l21 c21 k21
  have F22 := fun_mk (st := s_law) l22 c22 k22
  have b0 := F0.binds (ps := ["number"]) fun _ _ _ _ _ _ us hl => match us, hl with | [_], _ => rfl
  have b1 := F1.binds (ps := ["text", "line"]) fun _ _ _ _ _ _ us hl => match us, hl with | [_, _], _ => rfl
  have b2 := F2.binds (ps := ["text", "at"]) fun _ _ _ _ _ _ us hl => match us, hl with | [_, _], _ => rfl
  have b3 := F3.binds (ps := ["text", "at", "signs"]) fun _ _ _ _ _ _ us hl => match us, hl with | [_, _, _], _ => rfl
  have b4 := F4.binds (ps := ["word"]) fun _ _ _ _ _ _ us hl => match us, hl with | [_], _ => rfl
  have b5 := F5.binds (ps := ["digits"]) fun _ _ _ _ _ _ us hl => match us, hl with | [_], _ => rfl
  have b6 := F6.binds (ps := ["script"]) fun _ _ _ _ _ _ us hl => match us, hl with | [_], _ => rfl
  have b7 := F7.binds (ps := ["bag", "size"]) fun _ _ _ _ _ _ us hl => match us, hl with | [_, _], _ => rfl
  have b8 := F8.binds (ps := []) fun _ _ _ _ _ _ us hl => match us, hl with | [], _ => rfl
  have b9 := F9.binds (ps := []) fun _ _ _ _ _ _ us hl => match us, hl with | [], _ => rfl
  have b10 := F10.binds (ps := []) fun _ _ _ _ _ _ us hl => match us, hl with | [], _ => rfl
  have b11 := F11.binds (ps := ["bag", "signs", "many"]) fun _ _ _ _ _ _ us hl => match us, hl with | [_, _, _], _ => rfl
  have b12 := F12.binds (ps := ["bag"]) fun _ _ _ _ _ _ us hl => match us, hl with | [_], _ => rfl
  have b13 := F13.binds (ps := ["bag", "short"]) fun _ _ _ _ _ _ us hl => match us, hl with | [_, _], _ => rfl
  have b14 := F14.binds (ps := ["bag", "many", "odd", "short"]) fun _ _ _ _ _ _ us hl => match us, hl with | [_, _, _, _], _ => rfl
  have b15 := F15.binds (ps := ["bag"]) fun _ _ _ _ _ _ us hl => match us, hl with | [_], _ => rfl
  have b16 := F16.binds (ps := ["text", "at", "signs"]) fun _ _ _ _ _ _ us hl => match us, hl with | [_, _, _], _ => rfl
  have b17 := F17.binds (ps := ["word"]) fun _ _ _ _ _ _ us hl => match us, hl with | [_], _ => rfl
  have b18 := F18.binds (ps := ["text"]) fun _ _ _ _ _ _ us hl => match us, hl with | [_], _ => rfl
  have b19 := F19.binds (ps := ["text", "line"]) fun _ _ _ _ _ _ us hl => match us, hl with | [_, _], _ => rfl
  have b20 := F20.binds (ps := ["text", "line"]) fun _ _ _ _ _ _ us hl => match us, hl with | [_, _], _ => rfl
  have b21 := F21.binds (ps := ["actual", "due"]) fun _ _ _ _ _ _ us hl => match us, hl with | [_, _], _ => rfl
  refine ⟨PySem.W.fnOf "law" "law" (defArgs s_law) (defBody s_law) (defScope s_law) .none kV22 dc22 pm22 an22 cd22 ct22, fun s v => .of_eq rfl, fun base _ _ => ?_⟩
  have c__law_bag : C8.Cal l.prog w K mg base 1 "_law_bag" (spBag K) [] := ⟨_, _, ["script"], [], ok__law_bag T  F6, PySem.W.mg_of X G a6, k6, b6, .nil⟩
  have c__law_draw : C8.Cal l.prog w K mg base 1 "_law_draw" spDraw [] := ⟨_, _, ["bag", "size"], [], ok__law_draw T  F7, PySem.W.mg_of X G a7, k7, b7, .nil⟩
  have c__law_chars : C8.Cal l.prog w K mg base 2 "_law_chars" spChars [] := ⟨_, _, ["bag", "signs", "many"], [], ok__law_chars T c__law_draw F11, PySem.W.mg_of X G a11, k11, b11, .nil⟩
  have c__law_symbols : C8.Cal l.prog w K mg base 1 "_law_symbols" spSyms [] := ⟨_, _, [], [], ok__law_symbols T  F9, PySem.W.mg_of X G a9, k9, b9, .nil⟩
  have c__law_keywords : C8.Cal l.prog w K mg base 1 "_law_keywords" spKws [] := ⟨_, _, [], [], ok__law_keywords T  F8, PySem.W.mg_of X G a8, k8, b8, .nil⟩
  have c__law_good : C8.Cal l.prog w K mg base 3 "_law_good" spGood [] := ⟨_, _, ["bag", "short"], [], ok__law_good T c__law_draw c__law_chars c__law_symbols c__law_keywords F13, PySem.W.mg_of X G a13, k13, b13, .nil⟩
  have c__law_odd : C8.Cal l.prog w K mg base 3 "_law_odd" spOdd [] := ⟨_, _, ["bag"], [], ok__law_odd T c__law_draw c__law_chars F12, PySem.W.mg_of X G a12, k12, b12, .nil⟩
  have c__law_pieces : C8.Cal l.prog w K mg base 4 "_law_pieces" spPieces [] := ⟨_, _, ["bag", "many", "odd", "short"], [], ok__law_pieces T c__law_draw c__law_good c__law_odd F14, PySem.W.mg_of X G a14, k14, b14, .nil⟩
  have c__law_signs : C8.Cal l.prog w K mg base 1 "_law_signs" spSigns [] := ⟨_, _, [], [], ok__law_signs T  F10, PySem.W.mg_of X G a10, k10, b10, .nil⟩
  have c__law_line : C8.Cal l.prog w K mg base 5 "_law_line" spLine [] := ⟨_, _, ["bag"], [], ok__law_line T c__law_draw c__law_chars c__law_pieces c__law_signs F15, PySem.W.mg_of X G a15, k15, b15, .nil⟩
  have c__law_alike_0 : C8.Cal l.prog w K mg base 0 "_law_alike" (spAlike 0) [] := ⟨_, _, ["actual", "due"], [], WExc.fn_false (fun _ _ _ _ h => h), PySem.W.mg_of X G a21, k21, b21, .nil⟩
  have c__law_alike_1 : C8.Cal l.prog w K mg base 1 "_law_alike" (spAlike 1) [] := ⟨_, _, ["actual", "due"], [], ok__law_alike (n := 0) T  c__law_alike_0 F21, PySem.W.mg_of X G a21, k21, b21, .nil⟩
  have c__law_alike_2 : C8.Cal l.prog w K mg base 2 "_law_alike" (spAlike 2) [] := ⟨_, _, ["actual", "due"], [], ok__law_alike (n := 1) T  c__law_alike_1 F21, PySem.W.mg_of X G a21, k21, b21, .nil⟩
  have c__law_alike_3 : C8.Cal l.prog w K mg base 3 "_law_alike" (spAlike 3) [] := ⟨_, _, ["actual", "due"], [], ok__law_alike (n := 2) T  c__law_alike_2 F21, PySem.W.mg_of X G a21, k21, b21, .nil⟩
  have c__law_alike : C8.Cal l.prog w K mg base 4 "_law_alike" (spAlike 4) [] := ⟨_, _, ["actual", "due"], [], ok__law_alike (n := 3) T  c__law_alike_3 F21, PySem.W.mg_of X G a21, k21, b21, .nil⟩
  have c__end_of_run : C8.Cal l.prog w K mg base 1 "_end_of_run" spRun [] := ⟨_, _, ["text", "at", "signs"], [], ok__end_of_run T  F3, PySem.W.mg_of X G a3, k3, b3, .nil⟩
  have c__end_of_token : C8.Cal l.prog w K mg base 2 "_end_of_token" spTokEnd [] := ⟨_, _, ["text", "at"], [], ok__end_of_token T c__end_of_run F2, PySem.W.mg_of X G a2, k2, b2, .nil⟩
  have c__is_number : C8.Cal l.prog w K mg base 1 "_is_number" spIsNum [] := ⟨_, _, ["digits"], [], ok__is_number T  F5, PySem.W.mg_of X G a5, k5, b5, .nil⟩
  have c__kind_of : C8.Cal l.prog w K mg base 2 "_kind_of" spKind [] := ⟨_, _, ["word"], [], ok__kind_of T c__is_number F4, PySem.W.mg_of X G a4, k4, b4, .nil⟩
  have FS_TooLarge : WExc.FunS K "__init__" "TooLarge.__init__" s_TooLarge___init__ eI_TooLarge cc_TooLarge cda_TooLarge _ := ⟨⟨_, _, _, _, _, _, _, _, rfl, xf_TooLarge, xc_TooLarge⟩⟩
  have U_TooLarge : WExc.SupK l.prog K eC_TooLarge cc_TooLarge cda_TooLarge := ⟨⟨_, _, _, xcell_TooLarge⟩, ⟨_, _, _, _, _, _, xcode_TooLarge, xv_TooLarge, xfe_TooLarge⟩, xopq, xtop, xsup_TooLarge⟩
  have x_TooLarge : WExc.Exc l.prog w K mg base "TooLarge" eC_TooLarge 2 (WExc.spIni eC_TooLarge 2 ok_TooLarge fs_TooLarge) := ⟨PySem.W.mg_of X G xa_TooLarge, T.xo_TooLarge, ⟨_, _, _, xi_TooLarge, xt_TooLarge, ok_TooLarge___init__ T  FS_TooLarge U_TooLarge (PySem.W.mg_none_of X G xsu), FS_TooLarge.binds (ps := ["self", "what", "limit"]) fun _ _ _ _ _ _ us hl => match us, hl with | [_, _, _], _ => rfl⟩⟩
  have c__written : C8.Cal l.prog w K mg base 1 "_written" spWritten [] := ⟨_, _, ["number"], [], ok__written T  F0, PySem.W.mg_of X G a0, k0, b0, .nil⟩
  have FS_BadText : WExc.FunS K "__init__" "BadText.__init__" s_BadText___init__ eI_BadText cc_BadText cda_BadText _ := ⟨⟨_, _, _, _, _, _, _, _, rfl, xf_BadText, xc_BadText⟩⟩
  have U_BadText : WExc.SupK l.prog K eC_BadText cc_BadText cda_BadText := ⟨⟨_, _, _, xcell_BadText⟩, ⟨_, _, _, _, _, _, xcode_BadText, xv_BadText, xfe_BadText⟩, xopq, xtop, xsup_BadText⟩
  have x_BadText : WExc.Exc l.prog w K mg base "BadText" eC_BadText 2 (WExc.spIni eC_BadText 2 ok_BadText fs_BadText) := ⟨PySem.W.mg_of X G xa_BadText, T.xo_BadText, ⟨_, _, _, xi_BadText, xt_BadText, ok_BadText___init__ T c__written FS_BadText U_BadText (PySem.W.mg_none_of X G xsu), FS_BadText.binds (ps := ["self", "line", "column"]) fun _ _ _ _ _ _ us hl => match us, hl with | [_, _, _], _ => rfl⟩⟩
  have c_tokens : WExc.CalX l.prog w K mg base 4 "tokens" (spTokens eC_BadText eC_TooLarge) := ⟨_, _, ["text", "line"], ok_tokens T c__end_of_token c__kind_of x_TooLarge x_BadText F1, PySem.W.mg_of X G a1, k1, b1⟩
  have c__law_answer : C8.Cal l.prog w K mg base 5 "_law_answer" spAnswer [] := ⟨_, _, ["text", "line"], [], ok__law_answer T c_tokens F20, PySem.W.mg_of X G a20, k20, b20, .nil⟩
  have c__law_end : C8.Cal l.prog w K mg base 1 "_law_end" spEnd [] := ⟨_, _, ["text", "at", "signs"], [], ok__law_end T  F16, PySem.W.mg_of X G a16, k16, b16, .nil⟩
  have c__law_number_is_good : C8.Cal l.prog w K mg base 1 "_law_number_is_good" spNumGood [] := ⟨_, _, ["word"], [], ok__law_number_is_good T  F17, PySem.W.mg_of X G a17, k17, b17, .nil⟩
  have c__law_scan : C8.Cal l.prog w K mg base 2 "_law_scan" spScan [] := ⟨_, _, ["text"], [], ok__law_scan T c__law_end c__law_number_is_good c__law_keywords F18, PySem.W.mg_of X G a18, k18, b18, .nil⟩
  have c__law_due : C8.Cal l.prog w K mg base 3 "_law_due" spDue [] := ⟨_, _, ["text", "line"], [], ok__law_due T c__law_scan F19, PySem.W.mg_of X G a19, k19, b19, .nil⟩
  exact ok_law T c__law_bag c__law_line c__law_alike c__law_draw c__law_answer c__law_due F22
end K01
open PySem PySem.W PyProof.Rows
set_option maxRecDepth 100000 in
set_option maxHeartbeats 0 in
theorem PySem.Challenge.cw_gatesworn_k01_tokens_refused_holds : PySem.Challenge.rw_gatesworn_k01_tokens_refused.Holds := by
  w_on; o_law; k_head; (case hw => w_witness2)
  k_fill
  refine L2.walk_of (l := PySem.Challenge.rw_gatesworn_k01_tokens_refused) (n := 63) (k := 6) (x := "script") (CX := fun _ => L2.CX0) (sp := fun w => K01.spLaw _) rfl (by decide) rfl ⟨rfl, by decide, by decide⟩ (fun w h Y => PySem.W.kIn_of Y) ?F (fun _ _ a ns hl _ hS => ⟨a, ns, rfl, hS, hl, fun _ => rfl⟩) (fun _ _ _ _ _ h => h)
  case F =>
    intro w mg fa h KX G hmg
    refine' K01.all_mk KX G hmg ?a0 ?l0 ?c0 ?k0 ?a1 ?l1 ?c1 ?k1 ?a2 ?l2 ?c2 ?k2 ?a3 ?l3 ?c3 ?k3 ?a4 ?l4 ?c4 ?k4 ?a5 ?l5 ?c5 ?k5 ?a6 ?l6 ?c6 ?k6 ?a7 ?l7 ?c7 ?k7 ?a8 ?l8 ?c8 ?k8 ?a9 ?l9 ?c9 ?k9 ?a10 ?l10 ?c10 ?k10 ?a11 ?l11 ?c11 ?k11 ?a12 ?l12 ?c12 ?k12 ?a13 ?l13 ?c13 ?k13 ?a14 ?l14 ?c14 ?k14 ?a15 ?l15 ?c15 ?k15 ?a16 ?l16 ?c16 ?k16 ?a17 ?l17 ?c17 ?k17 ?a18 ?l18 ?c18 ?k18 ?a19 ?l19 ?c19 ?k19 ?a20 ?l20 ?c20 ?k20 ?a21 ?l21 ?c21 ?k21 ?a22 ?l22 ?c22 ?k22 ?z_ValueError ?z_bool ?z_int ?z_isinstance ?z_len ?z_list ?z_range ?z_str ?z_tuple ?gg_LARGE ?gg_KEYWORDS ?gl_KEYWORDS ?gg_LETTERS ?gg_DIGITS ?gg_WORD_SIGNS ?gg_DOUBLE_SYMBOLS ?gl_DOUBLE_SYMBOLS ?gg_SINGLE_SYMBOLS ?gg_MOST_TOKENS ?gg_LONGEST_NAME ?gg_LONGEST_NUMBER ?gg_GREATEST_NUMBER ?xa_BadText ?xl_BadText ?xr_BadText ?xs_BadText ?xga_BadText ?xgg_BadText ?xcl_BadText ?xm_BadText ?xi_BadText ?xt_BadText ?xf_BadText ?xc_BadText ?xk_BadText ?xe_BadText ?xy_BadText ?xh_BadText ?xj_BadText ?xcell_BadText ?xcode_BadText ?xv_BadText ?xfe_BadText ?xsup_BadText ?xn_line_BadText ?xn_column_BadText ?xa_TooLarge ?xl_TooLarge ?xr_TooLarge ?xs_TooLarge ?xga_TooLarge ?xgg_TooLarge ?xcl_TooLarge ?xm_TooLarge ?xi_TooLarge ?xt_TooLarge ?xf_TooLarge ?xc_TooLarge ?xk_TooLarge ?xe_TooLarge ?xy_TooLarge ?xh_TooLarge ?xj_TooLarge ?xcell_TooLarge ?xcode_TooLarge ?xv_TooLarge ?xfe_TooLarge ?xsup_TooLarge ?xn_what_TooLarge ?xn_limit_TooLarge ?xa_GatesError ?xe_GatesError ?xy_GatesError ?xh_GatesError ?xj_GatesError ?ki_BadText_ValueError ?ki_BadText_GatesError ?ki_BadText_TooLarge ?ne_BadText_TooLarge ?ki_TooLarge_ValueError ?ki_TooLarge_GatesError ?ki_TooLarge_BadText ?ne_TooLarge_BadText ?em_BadText_BadText ?em_TooLarge_BadText ?em_TooLarge_TooLarge ?xopq ?xtop ?xsu ?xhn ?xht
    (case a0 => k_is); (case l0 => k_is); (case c0 => k_is); (case k0 => k_is); (case a1 => k_is); (case l1 => k_is); (case c1 => k_is); (case k1 => k_is); (case a2 => k_is); (case l2 => k_is); (case c2 => k_is); (case k2 => k_is); (case a3 => k_is); (case l3 => k_is); (case c3 => k_is); (case k3 => k_is); (case a4 => k_is); (case l4 => k_is); (case c4 => k_is); (case k4 => k_is); (case a5 => k_is); (case l5 => k_is); (case c5 => k_is); (case k5 => k_is); (case a6 => k_is); (case l6 => k_is); (case c6 => k_is); (case k6 => k_is); (case a7 => k_is); (case l7 => k_is); (case c7 => k_is); (case k7 => k_is); (case a8 => k_is); (case l8 => k_is); (case c8 => k_is); (case k8 => k_is); (case a9 => k_is); (case l9 => k_is); (case c9 => k_is); (case k9 => k_is); (case a10 => k_is); (case l10 => k_is); (case c10 => k_is); (case k10 => k_is); (case a11 => k_is); (case l11 => k_is); (case c11 => k_is); (case k11 => k_is); (case a12 => k_is); (case l12 => k_is); (case c12 => k_is); (case k12 => k_is); (case a13 => k_is); (case l13 => k_is); (case c13 => k_is); (case k13 => k_is); (case a14 => k_is); (case l14 => k_is); (case c14 => k_is); (case k14 => k_is); (case a15 => k_is); (case l15 => k_is); (case c15 => k_is); (case k15 => k_is); (case a16 => k_is); (case l16 => k_is); (case c16 => k_is); (case k16 => k_is); (case a17 => k_is); (case l17 => k_is); (case c17 => k_is); (case k17 => k_is); (case a18 => k_is); (case l18 => k_is); (case c18 => k_is); (case k18 => k_is); (case a19 => k_is); (case l19 => k_is); (case c19 => k_is); (case k19 => k_is); (case a20 => k_is); (case l20 => k_is); (case c20 => k_is); (case k20 => k_is); (case a21 => k_is); (case l21 => k_is); (case c21 => k_is); (case k21 => k_is); (case a22 => k_is); (case l22 => k_is); (case c22 => k_is); (case k22 => k_is); (case z_ValueError => k_is); (case z_bool => k_is); (case z_int => k_is); (case z_isinstance => k_is); (case z_len => k_is); (case z_list => k_is); (case z_range => k_is); (case z_str => k_is); (case z_tuple => k_is); (case gg_LARGE => k_is); (case gg_KEYWORDS => k_is); (case gl_KEYWORDS => k_is); (case gg_LETTERS => k_is); (case gg_DIGITS => k_is); (case gg_WORD_SIGNS => k_is); (case gg_DOUBLE_SYMBOLS => k_is); (case gl_DOUBLE_SYMBOLS => k_is); (case gg_SINGLE_SYMBOLS => k_is); (case gg_MOST_TOKENS => k_is); (case gg_LONGEST_NAME => k_is); (case gg_LONGEST_NUMBER => k_is); (case gg_GREATEST_NUMBER => k_is); (case xa_BadText => k_is); (case xl_BadText => k_is); (case xr_BadText => first | rfl | decide +kernel | kernel_rfl); (case xs_BadText => k_is); (case xga_BadText => k_is); (case xgg_BadText => k_is); (case xcl_BadText => k_is); (case xm_BadText => k_is); (case xi_BadText => k_is); (case xt_BadText => k_is); (case xf_BadText => k_is); (case xc_BadText => k_is); (case xk_BadText => k_is); (case xe_BadText => k_is); (case xy_BadText => k_is); (case xh_BadText => k_is); (case xj_BadText => k_is); (case xcell_BadText => k_is); (case xcode_BadText => k_is); (case xv_BadText => rfl); (case xfe_BadText => first | rfl | decide +kernel | kernel_rfl); (case xsup_BadText => ks_is); (case xn_line_BadText => k_is); (case xn_column_BadText => k_is); (case xa_TooLarge => k_is); (case xl_TooLarge => k_is); (case xr_TooLarge => first | rfl | decide +kernel | kernel_rfl); (case xs_TooLarge => k_is); (case xga_TooLarge => k_is); (case xgg_TooLarge => k_is); (case xcl_TooLarge => k_is); (case xm_TooLarge => k_is); (case xi_TooLarge => k_is); (case xt_TooLarge => k_is); (case xf_TooLarge => k_is); (case xc_TooLarge => k_is); (case xk_TooLarge => k_is); (case xe_TooLarge => k_is); (case xy_TooLarge => k_is); (case xh_TooLarge => k_is); (case xj_TooLarge => k_is); (case xcell_TooLarge => k_is); (case xcode_TooLarge => k_is); (case xv_TooLarge => rfl); (case xfe_TooLarge => first | rfl | decide +kernel | kernel_rfl); (case xsup_TooLarge => ks_is); (case xn_what_TooLarge => k_is); (case xn_limit_TooLarge => k_is); (case xa_GatesError => k_is); (case xe_GatesError => k_is); (case xy_GatesError => k_is); (case xh_GatesError => k_is); (case xj_GatesError => k_is); (case ki_BadText_ValueError => k_is); (case ki_BadText_GatesError => k_is); (case ki_BadText_TooLarge => k_is); (case ne_BadText_TooLarge => first | rfl | decide +kernel); (case ki_TooLarge_ValueError => k_is); (case ki_TooLarge_GatesError => k_is); (case ki_TooLarge_BadText => k_is); (case ne_TooLarge_BadText => first | rfl | decide +kernel); (case em_BadText_BadText => k_is); (case em_TooLarge_BadText => k_is); (case em_TooLarge_TooLarge => k_is); (case xopq => k_is); (case xtop => first | rfl | decide +kernel); (case xsu => k_is); (case xhn => k_is); (case xht => k_is)
