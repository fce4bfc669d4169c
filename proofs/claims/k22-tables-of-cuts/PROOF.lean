import PyProof.Rows.All
import Wide.All
import OpenK.AllK
import Wide.FinOn
import HandS.ForMost
import HandS.SortKw
import HandS.Codes
import HandS.Strs
import HandS.Wide
import HandS.IsInst
import HandS.StrMore
import HandS.Steps
import HandS.Evl
import HandS.Zip
import HandS.ExcInit
import HandS.Nested
import KE.KExcSuper
import HandS.ExcIs
import HandS.ExcField
import HandS.TryMany
import HandS.FStr
import HandS.ExcOwn
import HandS.WordsExc
import HandS.Flow
import HandS.Style
import HandS.ClsMeth
import HandS.Star
import HandS.OwnEq
import KE.KOpsOwn
import HandS.SetKeys
import HandS.More
import HandS.SortInts
import HandS.Walk
import HandS.WideBits
import PySem.Challenge.RW_gatesworn_k22_tables_of_cuts
set_option Elab.async false
set_option linter.all false
set_option maxRecDepth 100000
set_option maxHeartbeats 4000000
namespace WL
open PySem PySem.Spec PyProof.Rows L2 PySem.W
/-! max of a list of ints with default= -/
section
variable {prog : Program} {w : World} {A : Around} {R : Result → Shared → Prop} {I : Addr} {fp wr : List Addr} {n : Nat} {P : Nat → Value → Prop} {St : Nat → Heap → Prop} {kw : List (Str × Value)}
theorem mxName : (toString "max" ++ toString ".loop" : String) = "max.loop" := by decide
/-- the turns behind the first one, whatever the keywords -/
theorem mx_turns (W : Walks prog w A.in1 I fp wr n P St) (bt : Nat → Nat → Bool) (cmp : CmpOf prog w A.in1 .Gt P bt) (S : Addr) (nf : S ∉ fp) : ∀ (k j : Nat) (s : Shared) (vb : Value) (c : Nat), n - (j + 1) = k → j + 1 ≤ n → St (j + 1) s.heap → P (argBest bt j) vb →
    s.heap.get? S = some { cls := .type "list", dict := none, data := .seq #[vb, vb] c, slots := #[] } →
    (∀ v h' tk, P (argBest bt (n - 1)) v → (∀ b o, b ∉ wr → b ≠ S → s.heap.get? b = some o → h'.get? b = some o) → R (.ok (.ret v)) { s with heap := h', toks := tk }) →
    codeAny (model prog w) A (.builtin "max.loop" ⟨[.ref I, .none, .ref S], kw⟩) R s := by
  have nw : S ∉ wr := fun h => nf (W.sub _ h)
  intro k; induction k with
  | zero =>
    intro j s vb c hk hj hst hPb hS hR
    have en : j + 1 = n := by omega
    refine codeAny_builtin F.entry_max_loop ?_; rw [Around.under_plainId F.plain_max_loop _]
    (show wpAny _ A.in1 (seqItems? (.ref S) >>= _) _ _ s); refine wpAny_bind (wpAny_seqItems hS rfl ?_)
    (show wpAny _ A.in1 (tryCatch (pyNext (.ref I)) _ >>= _) _ _ s); refine wpAny_bind (wpAny_tryCatch (W.done s _ _ (en ▸ hst) fun h' tk hk' => ?_))
    (show wpAny _ A.in1 (updateSeq S (fun _ => #[]) >>= _) _ _ _); refine wpAny_bind (wpAny_updateSeq (hk' S _ nw hS) rfl (wpAny_bind (wpAny_letGo (wpAny_pure ?_))))
    exact hR vb _ tk (by rw [← en]; exact hPb) fun b o hbw hbS e => (Heap.get?_update_other _ _ (Ne.symm hbS)).trans (hk' b o hbw e)
  | succ k ih =>
    intro j s vb c hk hj hst hPb hS hR
    have hlt : j + 1 < n := by omega
    refine codeAny_builtin F.entry_max_loop ?_; rw [Around.under_plainId F.plain_max_loop _]
    (show wpAny _ A.in1 (seqItems? (.ref S) >>= _) _ _ s); refine wpAny_bind (wpAny_seqItems hS rfl ?_)
    (show wpAny _ A.in1 (tryCatch (pyNext (.ref I)) _ >>= _) _ _ s); refine wpAny_bind (wpAny_tryCatch (W.item (j + 1) s _ _ hlt hst fun v h' tk hP hst' hk' => ?_))
    have hS' := hk' S _ nw hS
    (show wpAny _ A.in1 (tryCatch (holding [v, v] (richCompare .Gt v vb >>= _)) _ >>= _) _ _ _); refine wpAny_bind (wpAny_tryCatch (wpAny_holding (wpAny_bind (cmp (j + 1) (argBest bt j) v vb _ _ _ hP hPb ?_))))
    refine wpAny_bind (wpAny_holding (wpAny_truthy_bool ?_)); refine wpAny_bind (wpAny_letGo (wpAny_pure ?_))
    cases hb : bt (j + 1) (argBest bt j) with
    | true =>
      simp only [if_true]
      refine wpAny_bind (wpAny_updateSeq hS' rfl (wpAny_bind (wpAny_letGo ?_))); rw [mxName]
      refine wpAny_pure ⟨plainId_quiet F.plain_max_loop _, ih (j + 1) _ v _ (by omega) hlt (W.frame _ _ _ hst' fun b hbf o e => ?_) (by simp only [argBest, hb, if_true]; exact hP) (Heap.get?_update_self _ hS' rfl) fun v' h'' tk'' hP' hk'' => ?_⟩
      · exact (Heap.get?_update_other _ _ (fun q : S = b => nf (by rw [q]; exact hbf))).trans e
      · exact hR v' h'' tk'' hP' fun b o hbw hbS e => hk'' b o hbw hbS ((Heap.get?_update_other _ _ (Ne.symm hbS)).trans (hk' b o hbw e))
    | false =>
      simp only [Bool.false_eq_true, if_false]
      refine wpAny_bind (wpAny_letGo ?_); rw [mxName]
      refine wpAny_pure ⟨plainId_quiet F.plain_max_loop _, ih (j + 1) _ vb c (by omega) hlt hst' (by simp only [argBest, hb, Bool.false_eq_true, if_false]; exact hPb) hS' fun v' h'' tk'' hP' hk'' => ?_⟩
      exact hR v' h'' tk'' hP' fun b o hbw hbS e => hk'' b o hbw hbS (hk' b o hbw e)
/-- all turns, at least one item -/
theorem mx_first (W : Walks prog w A.in1 I fp wr n P St) (bt : Nat → Nat → Bool) (cmp : CmpOf prog w A.in1 .Gt P bt) (S : Addr) (nf : S ∉ fp) (hn : 0 < n) {s : Shared} {c : Nat} (hst : St 0 s.heap) (hS : s.heap.get? S = some { cls := .type "list", dict := none, data := .seq #[] c, slots := #[] })
    (hR : ∀ v h' tk, P (argBest bt (n - 1)) v → (∀ b o, b ∉ wr → b ≠ S → s.heap.get? b = some o → h'.get? b = some o) → R (.ok (.ret v)) { s with heap := h', toks := tk }) : codeAny (model prog w) A (.builtin "max.loop" ⟨[.ref I, .none, .ref S], kw⟩) R s := by
  have nw : S ∉ wr := fun h => nf (W.sub _ h)
  refine codeAny_builtin F.entry_max_loop ?_; rw [Around.under_plainId F.plain_max_loop _]
  (show wpAny _ A.in1 (seqItems? (.ref S) >>= _) _ _ s); refine wpAny_bind (wpAny_seqItems hS rfl ?_)
  (show wpAny _ A.in1 (tryCatch (pyNext (.ref I)) _ >>= _) _ _ s); refine wpAny_bind (wpAny_tryCatch (W.item 0 s _ _ hn hst fun v h' tk hP hst' hk' => ?_))
  have hS' := hk' S _ nw hS
  (show wpAny _ A.in1 (updateSeq S (fun _ => #[v, v]) >>= _) _ _ _); refine wpAny_bind (wpAny_updateSeq hS' rfl ?_); rw [mxName]
  refine wpAny_pure ⟨plainId_quiet F.plain_max_loop _, mx_turns W bt cmp S nf _ 0 _ v _ rfl hn (W.frame _ _ _ hst' fun b hbf o e => ?_) hP (Heap.get?_update_self _ hS' rfl) fun v' h'' tk'' hP' hk'' => ?_⟩
  · exact (Heap.get?_update_other _ _ (fun q : S = b => nf (by rw [q]; exact hbf))).trans e
  · exact hR v' h'' tk'' hP' fun b o hbw hbS e => hk'' b o hbw hbS ((Heap.get?_update_other _ _ (Ne.symm hbS)).trans (hk' b o hbw e))
/-- no item: the default -/
theorem mx_none (W : Walks prog w A.in1 I fp wr n P St) (S : Addr) (nf : S ∉ fp) (hn : n = 0) {d : Value} {s : Shared} {c : Nat} (hst : St 0 s.heap) (hS : s.heap.get? S = some { cls := .type "list", dict := none, data := .seq #[] c, slots := #[] })
    (hR : ∀ h' tk, (∀ b o, b ∉ wr → b ≠ S → s.heap.get? b = some o → h'.get? b = some o) → R (.ok (.ret d)) { s with heap := h', toks := tk }) : codeAny (model prog w) A (.builtin "max.loop" ⟨[.ref I, .none, .ref S], [("default", d)]⟩) R s := by
  subst hn
  refine codeAny_builtin F.entry_max_loop ?_; rw [Around.under_plainId F.plain_max_loop _]
  (show wpAny _ A.in1 (seqItems? (.ref S) >>= _) _ _ s); refine wpAny_bind (wpAny_seqItems hS rfl ?_)
  (show wpAny _ A.in1 (tryCatch (pyNext (.ref I)) _ >>= _) _ _ s); refine wpAny_bind (wpAny_tryCatch (W.done s _ _ hst fun h' tk hk' => ?_))
  refine wpAny_bind (wpAny_rule ?_)
  exact wpAny_pure (hR h' tk fun b o hbw _ e => hk' b o hbw e)
end
section
variable {prog : Program} {w : World} {A : Around} {E : Value → Shared → Prop} {s : Shared} {l : Addr} {xs : Array (Int × Tok)} {Q : Value → Shared → Prop}
theorem mx_args (a d : Value) : argsOk "max" ⟨[a], [(Str.ofString "default", d)]⟩ := by unfold argsOk; kernel_rfl
theorem mx_list {d : Value} (hh : A.handled = none) (hl : s.heap.IsList l (intItems xs)) (h0 : xs.size = 0 → ∀ h' tk, (∀ b o, s.heap.get? b = some o → h'.get? b = some o) → Q d { s with heap := h', toks := tk })
    (h1 : 0 < xs.size → ∀ v h' tk, (intItems xs)[argBest (fun i j => decide (numAt xs i > numAt xs j)) (xs.size - 1)]? = some v → (∀ b o, s.heap.get? b = some o → h'.get? b = some o) → Q v { s with heap := h', toks := tk }) :
    wpAny (model prog w) A (call (.builtin "max") [.ref l] [(Str.ofString "default", d)]) Q E s := by
  refine kmk_tree F.kind_max F.plain_max F.entry_max (mx_args _ _) ?_
  show wpAny _ A.in1 (Builtin.Builtins.bindParams "max" ["key", "default"] 0 ⟨[], [(Str.ofString "default", d)]⟩ >>= _) _ _ s
  refine wpAny_bind (wpAny_of_eq (show Builtin.Builtins.bindParams "max" ["key", "default"] 0 ⟨[], [(Str.ofString "default", d)]⟩ = pure [none, some d] from rfl) ?_)
  refine wpAny_bind (wpAny_pure ?_)
  refine wpAny_bind (iter_intList hl fun s₂ e st hfp hlI => ?_)
  refine wpAny_bind (wpAny_newObj_type ?_)
  have W := Walks.list (prog := prog) (w := w) (A := A.in1) hh _ l hlI (intItems xs)
  have nf : s₂.heap.objs.size ∉ [s.heap.objs.size, l] := fun hm => Nat.lt_irrefl _ (hfp _ hm)
  have st0 := W.frame 0 _ (s₂.heap.push { cls := .type "list", data := .seq (#[] : Array Value) }) st (fun b _ o e => Heap.get?_push_of_some _ e)
  have hS : (s₂.heap.push { cls := .type "list", data := .seq (#[] : Array Value) }).get? s₂.heap.objs.size = some { cls := .type "list", data := .seq (#[] : Array Value) } := Heap.get?_push_size _ rfl
  rw [mxName]
  subst e
  by_cases hz : xs.size = 0
  · refine wpAny_pure ⟨plainId_quiet F.plain_max_loop _, mx_none W _ nf (by simpa [intItems] using hz) st0 hS fun h' tk hk => ?_⟩
    exact h0 hz h' tk (old_kept fun b o hb e => hk b o hb (Nat.ne_of_lt (Heap.lt_size e)) (Heap.get?_push_of_some _ e))
  · refine wpAny_pure ⟨plainId_quiet F.plain_max_loop _, mx_first W _ (CmpOf.ints_gt (numAt xs) (fun _ _ => intItems_at)) _ nf (by simp [intItems]; omega) st0 hS fun v h' tk hP hk => ?_⟩
    exact h1 (by omega) v h' tk (by simpa [intItems] using hP) (old_kept fun b o hb e => hk b o hb (Nat.ne_of_lt (Heap.lt_size e)) (Heap.get?_push_of_some _ e))
end
/-- max(xs, default=d), xs a list of ints -/
def rMaxD (K : PySem.W.Frag) : List V → List V → Hp → VK → Prop := fun vs zs H Q => ∃ (a : Addr) (ns : List Int) (d : Int), vs = [V.ref a] ∧ zs = [V.int d] ∧ SqL K H a (ns.map V.int) ∧ (ns = [] → Q (.int d) H) ∧ (∀ m, m ∈ ns → (∀ y, y ∈ ns → y ≤ m) → Q (.int m) H)
theorem cr_maxD {X : Cx} (hc : X.calm = true) : CallRK X (.builtin "max") [Str.ofString "default"] (rMaxD X.K) := by
  intro pins s σ H vs zs us ws Q I r r2 h
  obtain ⟨a, ns, d, rfl, rfl, hs, q0, q1⟩ := h
  obtain ⟨its, rv, hl, _⟩ := I.list hs
  rw [Vals.ref1 r]
  obtain ⟨u, rfl, t, rfl⟩ : ∃ u, ws = [u] ∧ ∃ t, u = Value.int d t := by
    cases r2 with
    | cons a b => cases b; exact ⟨_, rfl, a⟩
  obtain ⟨xs, e⟩ := rv.ints.allInts.items
  have hn : numsOf (intItems xs).toList = ns := by rw [← e]; exact rv.ints.numsOf
  rw [nums_intItems] at hn
  subst hn
  have hl' := hl.isList
  rw [e] at hl'
  refine mx_list (I.ok.hd hc) hl' (fun hz h' tk hk => ⟨.int d, H, I.kept hk, ⟨_, rfl⟩, q0 ?_⟩) (fun hz v h' tk hv hk => ?_)
  · have : xs = #[] := Array.eq_empty_of_size_eq_zero hz
    subst this; rfl
  · obtain ⟨t, rfl⟩ := intItems_at hv
    obtain ⟨k1, k2⟩ := argBest_gt (numAt xs) (xs.size - 1)
    refine ⟨.int _, H, I.kept hk, ⟨_, rfl⟩, q1 _ ?_ fun y hy => ?_⟩
    · rw [numAt_eq]; exact PySem.getD_mem (by rw [List.length_map, Array.length_toList]; omega)
    · obtain ⟨j, hj, rfl⟩ := mem_getD hy
      rw [List.length_map, Array.length_toList] at hj
      rw [← numAt_eq]; exact k2 j (by omega)
theorem my_maxD {X : Cx} (K : PySem.W.Frag) {p pos kp : Pos} {e d : Expr} {te td : TE} (hm : X.mg "max" = none) (hc : X.calm = true) (hg : Gl X "max") (he : PE X e te) (hd : PE X d td)
    (h1 : backTo pos (starEach [e] X.env) = (false, eval e X.env) :: backTo pos (starEach [] X.env) := by rfl) (h2 : (backTo pos (starEach [e] X.env)).any (·.1) = false := by rfl) (h3 : starEach [e] X.env = (false, eval e X.env) :: starEach [] X.env := by rfl) (eK : X.K = K := by rfl) :
    PE X (.Call (.Name "max" p) [e] [⟨some "default", d, kp⟩] pos) (tCKw (rMaxD K) (tCons te tNil) (tCons td tNil)) := by
  subst eK
  exact pe_callBK (cr_maxD hc) hg hm (by decide +kernel) (pa_cons he pa_nil h3) (pk_cons hd pk_nil) (by decide) (by decide) h1 h2 rfl rfl rfl
/-- text * int -/
theorem op_mul_str {X : Cx} : OpR X (binaryOp .Mult) (fun x y H Q => ∃ z n, x = .str z ∧ y = .int n ∧ z.length ≤ 16 ∧ n ≤ 1048576 ∧ -(2 ^ 63 : Int) ≤ n ∧ Q (.str (Txt.mul z n)) H) := by
  intro pins s σ H x y v u Q I rx ry h
  obtain ⟨z, n, rfl, rfl, h1, h2, h3, q⟩ := h
  obtain ⟨t, rfl⟩ := rx
  obtain ⟨t', rfl⟩ := ry
  exact SB.mul (mulOk_of 16 1048576 h1 h2 h3 (by decide) (by decide)) fun t' k => ⟨.str (Txt.mul z n), H, I.tok _, ⟨_, rfl⟩, q⟩
end WL
set_option Elab.async false
set_option linter.all false
set_option maxRecDepth 100000
set_option maxHeartbeats 4000000
namespace WL
open PySem PySem.Spec PyProof.Rows L2 PySem.W
/-! ### heaps: all but b stays -/
def Kp (b : Addr) (H H' : Hp) : Prop := ∀ a o, H a = some o → a ≠ b → H' a = some o
theorem Kp.refl {b : Addr} (H : Hp) : Kp b H H := fun _ _ h _ => h
theorem Kp.trans {b : Addr} {H H1 H2 : Hp} (p : Kp b H H1) (q : Kp b H1 H2) : Kp b H H2 := fun a o h n => q a o (p a o h n) n
theorem Kp.set {b : Addr} {H H1 : Hp} {o : HO} (p : Kp b H H1) : Kp b H (upd H1 b o) := fun a u h n => by rw [upd_ne n]; exact p a u h n
theorem Kp.new {b p : Addr} {H H1 : Hp} {o : HO} (k : Kp b H H1) (hp : H1 p = none) : Kp b H (upd H1 p o) := fun a u h n => by
  have e := k a u h n
  rw [upd_ne (ne_of_none e hp)]; exact e
/-- an object that was not there may change -/
theorem Kp.mut {b p : Addr} {H H1 : Hp} {o : HO} (k : Kp b H H1) (hp : H p = none) : Kp b H (upd H1 p o) := fun a u h n => by
  rw [upd_ne (ne_of_none h hp)]; exact k a u h n
theorem Kp.same {b : Addr} {H H1 : Hp} (s : Same H H1) : Kp b H H1 := fun a o h _ => s a o h
theorem Kp.free {b a : Addr} {H H1 : Hp} (k : Kp b H H1) (n : a ≠ b) (h : H1 a = none) : H a = none := by
  cases e : H a with
  | none => rfl
  | some o => rw [k a o e n] at h; cases h
theorem Kp.seq {K : PySem.W.Frag} {b a : Addr} {xs : List V} {H H1 : Hp} (k : Kp b H H1) (n : a ≠ b) (h : SqL K H a xs) : SqL K H1 a xs := by
  rcases h with (h | ⟨o, h⟩) | h
  · exact .inl (.inl (k _ _ h n))
  · exact .inl (.inr ⟨o, k _ _ h n⟩)
  · exact .inr h
theorem same_new {H : Hp} {p : Addr} {o : HO} (h : H p = none) : Same H (upd H p o) := fun b x e => by
  rw [upd_ne (ne_of_none e h)]; exact e
theorem same_mut {H H1 : Hp} {p : Addr} {o : HO} (k : Same H H1) (hp : H p = none) : Same H (upd H1 p o) := fun a u h => by
  rw [upd_ne (ne_of_none h hp)]; exact k a u h
theorem cxK {CX : CXT} {P : Program} {w : World} {K : PySem.W.Frag} {mg : Str → Option Value} {base : Heap} {N : List Str} {qual : Str} {scope : Scope} {f : Addr} {cd : Value} {A : Around} {outer : List Env} {s : Shared} {H : Hp} {E : XK} : (cxOf CX P w K mg base N qual scope f cd A outer s H E).K = K := rfl
/-! ### the rules with the written part named -/
section
variable {X : Cx} (K : PySem.W.Frag)
theorem kix_list (e : X.K = K := by rfl) : IxR X (rIxL K) := by subst e; exact ix_list
theorem kix_tup (e : X.K = K := by rfl) : IxR X (rIxT K) := by subst e; exact ix_tup
theorem ksl_list (e : X.K = K := by rfl) : SlR X (rSlL K) := by subst e; exact sl_list
theorem ksl_tup (e : X.K = K := by rfl) : SlR X (rSlT K) := by subst e; exact sl_tup
theorem kop_in_seq (e : X.K = K := by rfl) : OpR X (compareOp .In) (rIn K false) := by subst e; exact op_in_seq
theorem kop_notIn_seq (e : X.K = K := by rfl) : OpR X (compareOp .NotIn) (rIn K true) := by subst e; exact op_notIn_seq
theorem kop_catT (e : X.K = K := by rfl) : OpR X (binaryOp .Add) (rCatT K) := by subst e; exact op_catT
theorem kcall_len_seq (e : X.K = K := by rfl) : CallR X (.builtin "len") (fun xs H Q => ∃ p ys, xs = [.ref p] ∧ (SqL K H p ys ∨ SqT K H p ys) ∧ Q (.int ys.length) H) := by subst e; exact call_len_seq
theorem kcall_list_of (e : X.K = K := by rfl) : CallR X (.type "list") (fun xs H Q => ∃ p ys, xs = [.ref p] ∧ (SqL K H p ys ∨ SqT K H p ys) ∧ ∀ l, H l = none → Q (.ref l) (upd H l (.lst ys))) := by subst e; exact call_list_of
theorem kcall_tuple_of (e : X.K = K := by rfl) : CallR X (.type "tuple") (fun xs H Q => ∃ p ys, xs = [.ref p] ∧ ((SqL K H p ys ∧ ∀ l, H l = none → Q (.ref l) (upd H l (.tup ys))) ∨ (SqT K H p ys ∧ Q (.ref p) H))) := by subst e; exact call_tuple_of
theorem kcr_sum (hc : X.calm = true := by rfl) (e : X.K = K := by rfl) : CallR X (.builtin "sum") (rSum K) := by subst e; exact cr_sum hc
theorem kcr_max (hc : X.calm = true := by rfl) (e : X.K = K := by rfl) : CallR X (.builtin "max") (rMax K) := by subst e; exact cr_max hc
theorem kcr_min (hc : X.calm = true := by rfl) (e : X.K = K := by rfl) : CallR X (.builtin "min") (rMin K) := by subst e; exact cr_min hc
theorem kop_eqD (hu : X.A.units + 64 < cLine) (e : X.K = K := by rfl) : OpR X (compareOp .Eq) (rEqD K) := by subst e; exact op_eqD hu
theorem kop_neD (hu : X.A.units + 64 < cLine) (e : X.K = K := by rfl) : OpR X (compareOp .NotEq) (rNeD K) := by subst e; exact op_neD hu
theorem kcall_isi (e : X.K = K := by rfl) : CallR X (.builtin "isinstance") (rIsi K) := by subst e; exact call_isi
theorem kcall_isiT (e : X.K = K := by rfl) : CallR X (.builtin "isinstance") (rIsiT K) := by subst e; exact call_isiT
theorem kpi_list {tg l : Expr} {tl : TE} (hl : PE X l tl) (e : X.K = K := by rfl) : PI X tg l (iList K tl) := by subst e; exact pi_list hl
theorem kpi_tup {tg l : Expr} {tl : TE} (hl : PE X l tl) (e : X.K = K := by rfl) : PI X tg l (iTup K tl) := by subst e; exact pi_tup hl
theorem kpt_truth {a : Expr} {ta : TE} (ha : PE X a ta) (he : ∀ whole, isTrue a X.env whole = (do let v ← whole; standAt a.pos; holding [v] (truthy v))) (e : X.K = K := by rfl) : PT X a (tTru K ta) := by subst e; exact pt_truth ha he
theorem kpe_bm {o ex : Expr} {es : List Expr} {T name id} {apos cpos : Pos} {r : V → List V → Hp → VK → Prop} {to : TE} {t : TA} (pa : PlainAttrs T) (slot : Slot T name id) (hty : typeOf (.builtin id) = pure (.type "method_descriptor")) (hm : MtR X id r) (ho : PE X o to) (ha : PA X (ex :: es) t)
    (hbase : attributeBase o name X.env (eval o X.env) = eval o X.env := by rfl) (hfew : ((backTo cpos (starEach (ex :: es) X.env)).all (fun x => !x.1) && (backToKw cpos (keywordEach [] X.env)).all (fun x => x.1.isSome) && decide ((ex :: es).length + ([] : List Keyword).length + (if ([] : List Keyword).isEmpty then 0 else 1) < 30)) = true := by rfl)
    (hline : (apos.endLine == cpos.line) = true := by rfl) (hs : starEach (ex :: es) X.env = (false, eval ex X.env) :: starEach es X.env := by rfl) (hplain : (backTo cpos (starEach es X.env)).any (·.1) = false := by rfl) (e : X.K = K := by rfl) :
    PE X (.Call (.Attribute o name apos) (ex :: es) [] cpos) (tBM K T r to t) := by subst e; exact pe_bm pa slot hty hm ho ha hbase hfew hline hs hplain
theorem kpe_bm0 {o : Expr} {T name id} {apos cpos : Pos} {r : V → List V → Hp → VK → Prop} {to : TE} (pa : PlainAttrs T) (slot : Slot T name id) (hty : typeOf (.builtin id) = pure (.type "method_descriptor")) (hm : MtR X id r) (ho : PE X o to)
    (hbase : attributeBase o name X.env (eval o X.env) = eval o X.env := by rfl) (hline : (apos.endLine == cpos.line) = true := by rfl) (e : X.K = K := by rfl) : PE X (.Call (.Attribute o name apos) [] [] cpos) (tBM0 K T r to) := by subst e; exact pe_bm0 pa slot hty hm ho hbase hline
theorem kpe_join {o ex : Expr} {to te : TE} {apos pos : Pos} (ho : PE X o to) (he : PE X ex te) (hs : starEach [ex] X.env = [(false, eval ex X.env)] := by rfl) (hbase : attributeBase o "join" X.env (eval o X.env) = eval o X.env := by rfl) (hline : (apos.endLine == pos.line) = true := by rfl) (e : X.K = K := by rfl) :
    PE X (.Call (.Attribute o "join" apos) [ex] [] pos) (tM1 (fun x xs H Q => ∃ a p, ∃ ys : List Str, x = .str a ∧ xs = [.ref p] ∧ (SqL K H p (ys.map V.str) ∨ SqT K H p (ys.map V.str)) ∧ (ys.map (·.length)).sum + ys.length * a.length ≤ 16777216 ∧ Q (.str (Txt.join a ys)) H) to te) := by subst e; exact pe_join ho he hs hbase hline
theorem kpg_tup {es : List Expr} {k : Nat} {t : TGs} {n : Nat} {pos : Pos} (hc : X.calm = true) (h : PGs X es t) (hn : (assignEach es X.env).length = n := by rfl) (hst : (assignEach es X.env).findIdx? (·.1) = none := by rfl) (e : X.K = K := by rfl) : PG X (.Tuple es k pos) (gTup K n t) := by subst e; exact pg_tup hc h hn hst
theorem kpi_zip {ex e2 : Expr} {ta : TA} {p pos tpos : Pos} {elts : List Expr} {kk : Nat} (hg : Gl X "zip") (hm : X.mg "zip" = none) (ha : PA X [ex, e2] ta) (hs : starEach [ex, e2] X.env = (false, eval ex X.env) :: starEach [e2] X.env := by rfl) (hpl : (backTo pos (starEach [e2] X.env)).any (·.1) = false := by rfl) (e : X.K = K := by rfl) :
    PI X (.Tuple elts kk tpos) (.Call (.Name "zip" p) [ex, e2] [] pos) (iZip K ta) := by subst e; exact pi_zip hg hm ha hs hpl
theorem kpi_enum {ex : Expr} {ta : TA} {p pos tpos : Pos} {elts : List Expr} {kk : Nat} (hg : Gl X "enumerate") (hm : X.mg "enumerate" = none) (ha : PA X [ex] ta) (hs : starEach [ex] X.env = [(false, eval ex X.env)] := by rfl) (e : X.K = K := by rfl) :
    PI X (.Tuple elts kk tpos) (.Call (.Name "enumerate" p) [ex] [] pos) (iEnum K ta) := by subst e; exact pi_enum hg hm ha hs
theorem kpi_reversed {tg ex : Expr} {ta : TA} {p pos : Pos} (hg : Gl X "reversed") (hm : X.mg "reversed" = none) (ha : PA X [ex] ta) (hs : starEach [ex] X.env = [(false, eval ex X.env)] := by rfl) (e : X.K = K := by rfl) : PI X tg (.Call (.Name "reversed" p) [ex] [] pos) (iRev K ta) := by subst e; exact pi_reversed hg hm ha hs
end
/-! ### steps of a reading -/
section
variable {K : PySem.W.Frag} {σ : L2.St} {H : Hp} {Q : VK} {D : Ends} {ta tb te tc : TE} {t u : TS} {c d : TT} {i j : Int} {x y v : V} {p : Addr} {xs : List V} {k : Nat} {b : Bool}
theorem g_seq (h : t { D with nx := u D } σ H) : tSeq t u D σ H := h
theorem g_asg {g : TG} (h : te σ H fun x H1 => g x σ H1 D.nx) : tAsg te g D σ H := h
theorem g_name {Q : L2.St → Hp → Prop} (h : Q (σ.set k (some v)) H) : gName k v σ H Q := h
theorem g_sub {to ti : TE} {r : TSet} {Q : L2.St → Hp → Prop} (h : to σ H fun o H1 => ti σ H1 fun i H2 => r o i v H2 fun H3 => Q σ H3) : gSub to ti r v σ H Q := h
theorem g_var (e : σ[k]? = some (some v)) (h : Q v H) : tVar k σ H Q := ⟨v, e, h⟩
theorem g_c (h : Q v H) : tC v σ H Q := h
theorem g_op {r : R2} (h : ta σ H fun x H1 => tb σ H1 fun y H2 => r x y H2 Q) : tOp r ta tb σ H Q := h
theorem g_un {r : V → Hp → VK → Prop} (h : ta σ H fun x H1 => r x H1 Q) : tUn r ta σ H Q := h
theorem g_I0 {g : Int → Int → V} (h : Q (g i j) H) : rI0 g (.int i) (.int j) H Q := ⟨i, j, rfl, rfl, h⟩
theorem g_I {C : Int → Int → Prop} {g : Int → Int → V} (hc : C i j) (h : Q (g i j) H) : rI C g (.int i) (.int j) H Q := ⟨i, j, rfl, rfl, hc, h⟩
theorem g_U {g : Int → V} (h : Q (g i) H) : rU g (.int i) H Q := ⟨i, rfl, h⟩
theorem g_eq (s : scal x y = true) (h : Q (.bl (decide (x = y))) H) : rEq x y H Q := ⟨s, h⟩
theorem g_ne (s : scal x y = true) (h : Q (.bl (!decide (x = y))) H) : rNe x y H Q := ⟨s, h⟩
theorem g_drop (h : te σ H fun _ H1 => D.nx σ H1) : tDrop te D σ H := h
theorem g_ret (h : te σ H D.rt) : tRet te D σ H := h
theorem g_next (h : D.nx σ H) : tNext D σ H := h
theorem g_ifS (h : c σ H fun b H1 => if b = true then t D σ H1 else u D σ H1) : tIfS c t u D σ H := h
theorem g_ifE (h : c σ H fun b H1 => if b = true then ta σ H1 Q else tb σ H1 Q) : tIf c ta tb σ H Q := h
theorem g_test {Q : Bool → Hp → Prop} (h : te σ H fun x H' => ∃ k, x = .bl k ∧ Q k H') : tTest te σ H Q := h
theorem g_tb {Q : Bool → Hp → Prop} (h : te σ H fun x H' => ∃ k, x = .bl k ∧ Q k H') : tB te σ H Q := h
theorem g_bl {Q : Bool → Prop} (h : Q b) : ∃ k, V.bl b = .bl k ∧ Q k := ⟨b, rfl, h⟩
theorem g_not {Q : Bool → Hp → Prop} (h : c σ H fun b H1 => Q (!b) H1) : tNot c σ H Q := h
theorem g_and {Q : Bool → Hp → Prop} (h : c σ H fun b H1 => if b = true then d σ H1 Q else Q false H1) : tAnd c d σ H Q := h
theorem g_or {Q : Bool → Hp → Prop} (h : c σ H fun b H1 => if b = true then Q true H1 else d σ H1 Q) : tOr c d σ H Q := h
theorem g_nil {Q : List V → Hp → Prop} (h : Q [] H) : tNil σ H Q := h
theorem g_cons {tr : TA} {Q : List V → Hp → Prop} (h : te σ H fun x H1 => tr σ H1 fun xs H2 => Q (x :: xs) H2) : tCons te tr σ H Q := h
theorem g_cb {r : List V → Hp → VK → Prop} {tr : TA} (h : tr σ H fun vs H1 => r vs H1 Q) : tCB r tr σ H Q := h
theorem g_call {sp : Sp} {dvs : List V} {E : XK} {tr : TA} (h : tr σ H fun vs H1 => sp (vs ++ dvs) H1 Q E) : tCall sp dvs E tr σ H Q := h
theorem g_ixL {z : Int} (hs : SqL K H p xs) (ha : atI xs z = some v) (h : Q v H) : rIxL K (.ref p) (.int z) H Q := ⟨p, xs, z, v, rfl, rfl, hs, ha, h⟩
theorem g_setL {z : Int} {Q : Hp → Prop} {n : Nat} {ys : List V} (hs : H p = some (.lst xs)) (ha : ixN xs.length z = some n) (e : xs.set n v = ys) (h : Q (upd H p (.lst ys))) : rSetL (.ref p) (.int z) v H Q := ⟨p, xs, z, n, rfl, rfl, hs, ha, by rw [e]; exact h⟩
theorem g_setL2 {z : Int} {Q : Hp → Prop} {n : Nat} {ys : List V} (ha : ixN xs.length z = some n) (e : xs.set n v = ys) (h : Q (upd H p (.lst ys))) : rSetL (.ref p) (.int z) v (upd H p (.lst xs)) Q :=
  ⟨p, xs, z, n, rfl, rfl, upd_same, ha, by rw [upd_upd, e]; exact h⟩
theorem g_int {Q : Int → Prop} {R : Prop} (h : Q i) : (∃ z, [V.int i] = [.int z] ∧ Q z) ∨ R := .inl ⟨i, rfl, h⟩
theorem g_lst {tr : TA} (h : tr σ H fun xs H1 => xs.length ≤ sizeLine ∧ ∀ p, H1 p = none → Q (.ref p) (upd H1 p (.lst xs))) : tLst tr σ H Q := h
theorem g_tup {tr : TA} (h : tr σ H fun xs H1 => xs.length ≤ sizeLine ∧ ∀ p, H1 p = none → Q (.ref p) (upd H1 p (.tup xs))) : tTup tr σ H Q := h
theorem g_lenS {Q : List V → Prop} (hs : SqL K H p xs) (h : Q xs) : ∃ p' ys, [V.ref p] = [.ref p'] ∧ (SqL K H p' ys ∨ SqT K H p' ys) ∧ Q ys := ⟨p, xs, rfl, .inl hs, h⟩
theorem g_ite {A B : Prop} {P : Prop} [Decidable P] (h1 : P → A) (h2 : ¬ P → B) : if decide P = true then A else B := by
  by_cases h : P
  · rw [if_pos (decide_eq_true h)]; exact h1 h
  · rw [if_neg (fun e => h (of_decide_eq_true e))]; exact h2 h
theorem g_iteN {A B : Prop} {P : Prop} [Decidable P] (h1 : ¬ P → A) (h2 : P → B) : if (!decide P) = true then A else B := by
  by_cases h : P
  · rw [decide_eq_true h]; exact iteF (h2 h)
  · rw [decide_eq_false h]; exact iteT (h1 h)
theorem g_iteI {A B : Prop} (h1 : i = j → A) (h2 : i ≠ j → B) : if decide (V.int i = V.int j) = true then A else B :=
  g_ite (fun e => h1 (V.int.inj e)) (fun n => h2 fun e => n (congrArg V.int e))
theorem g_iteNI {A B : Prop} (h1 : i ≠ j → A) (h2 : i = j → B) : if (!decide (V.int i = V.int j)) = true then A else B :=
  g_iteN (fun n => h1 fun e => n (congrArg V.int e)) (fun e => h2 (V.int.inj e))
theorem g_iteB {A B : Prop} (h1 : b = true → A) (h2 : b = false → B) : if b = true then A else B := by
  cases b with
  | true => exact iteT (h1 rfl)
  | false => exact iteF (h2 rfl)
end
/-! ### loops and comprehensions -/
section
variable {K : PySem.W.Frag} {σ : L2.St} {H : Hp} {Q : VK} {D : Ends} {ta tb te tl : TE} {tbd : TS} {wi : TI} {g : TG} {tt : TT} {vs : List Nat} {p : Addr} {xs : List V} {z : Int} {k : Nat} {v : V}
def tForK (g : TG) (tb : TS) (D : Ends) (σ : L2.St) (J : It) (H1 : Hp) : Prop := ∃ W : Nat → Nat → L2.St → Hp → Prop, (∃ m, W 0 m σ H1) ∧ ∀ i m σ H, W i m σ H →
  (J.stop i H ∧ D.nx σ H) ∨ (J.go i H ∧ ∃ N : L2.St → Hp → Prop, (∀ σ' H', N σ' H' → ∃ m', m' < m ∧ W (i + 1) m' σ' H') ∧ ∀ x H', J.yld i H x H' → g x σ H' fun σ2 H2 => tb { D with nx := N, ct := N, bk := D.nx } σ2 H2)
def tLcK (g : TG) (tt : TT) (te : TE) (vs : List Nat) (σ : L2.St) (Q : VK) (J : It) (H1 : Hp) : Prop := ∀ D, H1 D = none → ∃ W : Nat → Nat → Hp → Prop, (∃ m, W 0 m (upd H1 D (.lst []))) ∧ ∀ i m H, W i m H →
  (J.stop i H ∧ Q (.ref D) H) ∨ (J.go i H ∧ ∃ Nx : Hp → Prop, (∀ H', Nx H' → ∃ m', m' < m ∧ W (i + 1) m' H') ∧ ∀ x H', J.yld i H x H' → g x (wipe σ vs) H' fun σ2 H2 => wipe σ2 vs = wipe σ vs ∧ tt σ2 H2 fun b H3 =>
    if b = true then te σ2 H3 fun y H4 => ∃ acc, H4 D = some (.lst acc) ∧ acc.length < sizeLine ∧ Nx (upd H4 D (.lst (acc ++ [y]))) else Nx H3)
theorem g_nn {R : Prop} (h : R) : V.non = V.non ∧ R := ⟨rfl, h⟩
theorem g_yes {Q : Bool → Hp → Prop} (h : Q true H) : tYes σ H Q := h
theorem g_for (h : wi σ H (tForK g tbd D σ)) : tFor wi g tbd D σ H := h
theorem g_lc (h : wi σ H (tLcK g tt te vs σ Q)) : tLc wi g tt te vs σ H Q := h
theorem g_iList {R : It → Hp → Prop} (h : tl σ H fun x H1 => ∃ a, x = .ref a ∧ (∃ xs, SqL K H1 a xs) ∧ R (Itl K a) H1) : iList K tl σ H R := h
theorem g_iRng1 {tr : TA} {R : It → Hp → Prop} (h : tr σ H fun vs H1 => ∃ j : Int, vs = [.int j] ∧ -(2 ^ 62) ≤ j ∧ j < 2 ^ 62 ∧ R (Itr 0 j.toNat) H1) : iRng1 tr σ H R := h
theorem g_iRng2 {tr : TA} {R : It → Hp → Prop} (h : tr σ H fun vs H1 => ∃ i j : Int, vs = [.int i, .int j] ∧ (-(2 ^ 62) ≤ i ∧ i < 2 ^ 62 ∧ -(2 ^ 62) ≤ j ∧ j < 2 ^ 62) ∧ R (Itr i (j - i).toNat) H1) : iRng2 tr σ H R := h
theorem g_sl {r : V → Option Int → Option Int → Hp → VK → Prop} {tlo thi : TO} (h : te σ H fun x H1 => tlo σ H1 fun l H2 => thi σ H2 fun u H3 => r x l u H3 Q) : tSl r te tlo thi σ H Q := h
theorem g_noPart {Q : Option Int → Hp → Prop} (h : Q none H) : tNoPart σ H Q := h
theorem g_part {Q : Option Int → Hp → Prop} (h : te σ H fun x H1 => ∃ i, x = .int i ∧ Q (some i) H1) : tPart te σ H Q := h
theorem g_ex1 {Q : Int → Prop} (h : Q z) : ∃ i, V.int z = .int i ∧ Q i := ⟨z, rfl, h⟩
theorem g_ixS {x : Str} {c : Nat} (hl : x.length ≤ sizeLine) (ha : atI x.cps.toList z = some c) (h : Q (.str ⟨#[c]⟩) H) : rIxS (.str x) (.int z) H Q := ⟨x, z, c, rfl, rfl, hl, ha, h⟩
theorem g_bm {T : String} {r : V → List V → Hp → VK → Prop} {to : TE} {tr : TA} (h : to σ H fun x H1 => tyV K T x H1 ∧ tr σ H1 fun xs H2 => r x xs H2 Q) : tBM K T r to tr σ H Q := h
theorem g_tyL {R : Prop} (hs : H p = some (.lst xs)) (h : R) : tyV K "list" (.ref p) H ∧ R := ⟨.inl ⟨rfl, _, SqL.of hs⟩, h⟩
theorem g_app (hs : H p = some (.lst xs)) (hz : xs.length < sizeLine) (h : Q .non (upd H p (.lst (xs ++ [v])))) : rAppend (.ref p) [v] H Q := ⟨p, xs, v, rfl, rfl, hs, hz, h⟩
/-- for x in a list -/
theorem f_list (hS : SqL K H p xs) (Pv : Nat → L2.St → Hp → Prop) (h0 : Pv 0 σ H) (hl : ∀ i σ H, i ≤ xs.length → Pv i σ H → SqL K H p xs)
    (hs : ∀ i x σ H, xs[i]? = some x → Pv i σ H → g x σ H fun σ2 H2 => tbd { D with nx := Pv (i + 1), ct := Pv (i + 1), bk := D.nx } σ2 H2) (hd : ∀ σ H, Pv xs.length σ H → D.nx σ H) :
    ∃ a, V.ref p = .ref a ∧ (∃ xs, SqL K H a xs) ∧ tForK g tbd D σ (Itl K a) H := ⟨p, rfl, ⟨_, hS⟩, for_list Pv h0 hl hs hd⟩
/-- for k in range(z) -/
theorem f_rng1 (h1 : -(2 ^ 62) ≤ z) (h2 : z < 2 ^ 62) (Pv : Nat → L2.St → Hp → Prop) (h0 : Pv 0 σ H) (hs : ∀ i σ H, i < z.toNat → Pv i σ H → g (.int i) σ H fun σ2 H2 => tbd { D with nx := Pv (i + 1), ct := Pv (i + 1), bk := D.nx } σ2 H2) (hd : ∀ σ H, Pv z.toNat σ H → D.nx σ H) :
    ∃ j : Int, [V.int z] = [.int j] ∧ -(2 ^ 62) ≤ j ∧ j < 2 ^ 62 ∧ tForK g tbd D σ (Itr 0 j.toNat) H := ⟨z, rfl, h1, h2, for_range Pv h0 (fun i σ H hi p => by rw [Int.zero_add]; exact hs i σ H hi p) hd⟩
/-- a comprehension over a list -/
theorem f_lcL (hS : SqL K H p xs) (Pv : Addr → Nat → Hp → Prop) (h0 : ∀ D, H D = none → Pv D 0 (upd H D (.lst []))) (hl : ∀ D i H', H D = none → i ≤ xs.length → Pv D i H' → SqL K H' p xs)
    (hs : ∀ D i x H', H D = none → xs[i]? = some x → Pv D i H' → g x (wipe σ vs) H' fun σ2 H2 => wipe σ2 vs = wipe σ vs ∧ tt σ2 H2 fun b H3 => if b = true then te σ2 H3 fun y H4 => ∃ acc, H4 D = some (.lst acc) ∧ acc.length < sizeLine ∧ Pv D (i + 1) (upd H4 D (.lst (acc ++ [y]))) else Pv D (i + 1) H3)
    (hd : ∀ D H', H D = none → Pv D xs.length H' → Q (.ref D) H') : ∃ a, V.ref p = .ref a ∧ (∃ xs, SqL K H a xs) ∧ tLcK g tt te vs σ Q (Itl K a) H :=
  ⟨p, rfl, ⟨_, hS⟩, fun D nD => lc_list (xs := xs) (Pv D) (h0 D nD) (fun i H' hi q => hl D i H' nD hi q) (fun i x H' hx q => hs D i x H' nD hx q) fun H' q => hd D H' nD q⟩
/-- .. over range(z) -/
theorem f_lcR (h1 : -(2 ^ 62) ≤ z) (h2 : z < 2 ^ 62) (Pv : Addr → Nat → Hp → Prop) (h0 : ∀ D, H D = none → Pv D 0 (upd H D (.lst [])))
    (hs : ∀ D i H', H D = none → i < z.toNat → Pv D i H' → g (.int i) (wipe σ vs) H' fun σ2 H2 => wipe σ2 vs = wipe σ vs ∧ tt σ2 H2 fun b H3 => if b = true then te σ2 H3 fun y H4 => ∃ acc, H4 D = some (.lst acc) ∧ acc.length < sizeLine ∧ Pv D (i + 1) (upd H4 D (.lst (acc ++ [y]))) else Pv D (i + 1) H3)
    (hd : ∀ D H', H D = none → Pv D z.toNat H' → Q (.ref D) H') : ∃ j : Int, [V.int z] = [.int j] ∧ -(2 ^ 62) ≤ j ∧ j < 2 ^ 62 ∧ tLcK g tt te vs σ Q (Itr 0 j.toNat) H :=
  ⟨z, rfl, h1, h2, fun D nD => lc_range (Pv D) (h0 D nD) (fun i H' hi q => by rw [Int.zero_add]; exact hs D i H' nD hi q) fun H' q => hd D H' nD q⟩
/-- [f x for x in xs], nothing else made -/
theorem f_lcMap {j : Nat} (hS : SqL K H p xs) (hz : xs.length ≤ 100000) (f : V → V) (hw : ∀ x, wipe ((wipe σ vs).set j (some x)) vs = wipe σ vs)
    (he : ∀ (i : Nat) x H' (Q' : VK), xs[i]? = some x → Same H H' → Q' (f x) H' → te ((wipe σ vs).set j (some x)) H' Q') (hd : ∀ D, H D = none → Q (.ref D) (upd H D (.lst (xs.map f)))) :
    ∃ a, V.ref p = .ref a ∧ (∃ xs, SqL K H a xs) ∧ tLcK (gName j) tYes te vs σ Q (Itl K a) H :=
  f_lcL hS (fun D i H' => H' = upd H D (.lst ((xs.take i).map f))) (fun D _ => rfl) (fun D i H' nD _ e => by rw [e]; exact (same_new nD).seq hS)
    (fun D i x H' nD hx e => ⟨hw x, (by
      suffices hh : te ((wipe σ vs).set j (some x)) H' (fun y H4 => ∃ acc, H4 D = some (.lst acc) ∧ acc.length < sizeLine ∧ upd H4 D (.lst (acc ++ [y])) = upd H D (.lst ((xs.take (i + 1)).map f))) by exact hh
      refine he i x H' _ hx (by rw [e]; exact same_new nD) ?_
      have hi := (List.getElem?_eq_some_iff.mp hx).1
      subst e
      refine ⟨_, upd_same, ?_, ?_⟩
      · rw [List.length_map, List.length_take]; exact Nat.lt_of_le_of_lt (Nat.min_le_right _ _) (Nat.lt_of_le_of_lt hz (by decide))
      · rw [upd_upd, List.take_succ, hx]; simp)⟩) (fun D H' nD e => by rw [e, List.take_length]; exact hd D nD)
/-- [f i for i in range(z)], nothing else made -/
theorem f_lcMapR {j : Nat} (h1 : -(2 ^ 62) ≤ z) (h2 : z ≤ 100000) (f : Nat → V) (hw : ∀ x, wipe ((wipe σ vs).set j (some x)) vs = wipe σ vs)
    (he : ∀ (i : Nat) H' (Q' : VK), i < z.toNat → Same H H' → Q' (f i) H' → te ((wipe σ vs).set j (some (.int i))) H' Q') (hd : ∀ D, H D = none → Q (.ref D) (upd H D (.lst ((List.range z.toNat).map f)))) :
    ∃ j' : Int, [V.int z] = [.int j'] ∧ -(2 ^ 62) ≤ j' ∧ j' < 2 ^ 62 ∧ tLcK (gName j) tYes te vs σ Q (Itr 0 j'.toNat) H :=
  f_lcR h1 (by omega) (fun D i H' => H' = upd H D (.lst ((List.range i).map f))) (fun D _ => rfl)
    (fun D i H' nD hi e => ⟨hw _, (by
      suffices hh : te ((wipe σ vs).set j (some (.int i))) H' (fun y H4 => ∃ acc, H4 D = some (.lst acc) ∧ acc.length < sizeLine ∧ upd H4 D (.lst (acc ++ [y])) = upd H D (.lst ((List.range (i + 1)).map f))) by exact hh
      refine he i H' _ hi (by rw [e]; exact same_new nD) ?_
      subst e
      refine ⟨_, upd_same, ?_, ?_⟩
      · rw [List.length_map, List.length_range]; exact Nat.lt_of_lt_of_le (m := 100000) (by omega) (by decide)
      · rw [upd_upd, List.range_succ]; simp)⟩) (fun D H' nD e => by rw [e]; exact hd D nD)
end
theorem cut_to (xs : List V) (k : Nat) : cutV xs none (some (k : Int)) = xs.take k := by
  unfold cutV
  rw [show HT.sIx xs.length xs.length (some (k : Int)) = min k xs.length from HT.sIx_nat xs.length xs.length k, HT.sIx_none, List.drop_zero, Nat.sub_zero]
  by_cases h : k ≤ xs.length
  · rw [Nat.min_eq_left h]
  · rw [Nat.min_eq_right (by omega), List.take_length, List.take_of_length_le (by omega)]
theorem cut_from (xs : List V) (k : Nat) : cutV xs (some (k : Int)) none = xs.drop k := by
  unfold cutV
  rw [show HT.sIx xs.length 0 (some (k : Int)) = min k xs.length from HT.sIx_nat xs.length 0 k, HT.sIx_none]
  by_cases h : k ≤ xs.length
  · rw [Nat.min_eq_left h, List.take_of_length_le (by rw [List.length_drop] <;> omega)]
  · rw [Nat.min_eq_right (by omega), List.drop_of_length_le (Nat.le_refl _), List.drop_of_length_le (by omega), List.take_nil]
theorem g_slL {K : PySem.W.Frag} {H : Hp} {Q : VK} {p : Addr} {xs ys : List V} {lo hi : Option Int} (hS : SqL K H p xs) (e : cutV xs lo hi = ys) (h : ∀ q, H q = none → Q (.ref q) (upd H q (.lst ys))) : rSlL K (.ref p) lo hi H Q := ⟨p, xs, rfl, hS, by rw [e]; exact h⟩
theorem map_at {ns : List Int} {i : Nat} {x : V} (h : (ns.map V.int)[i]? = some x) : ∃ n, ns[i]? = some n ∧ x = .int n := by
  rw [List.getElem?_map] at h
  cases e : ns[i]? with
  | none => rw [e] at h; cases h
  | some n => rw [e] at h; exact ⟨n, rfl, (Option.some.inj h).symm⟩
theorem map_atS {ns : List Str} {i : Nat} {x : V} (h : (ns.map V.str)[i]? = some x) : ∃ n, ns[i]? = some n ∧ x = .str n := by
  rw [List.getElem?_map] at h
  cases e : ns[i]? with
  | none => rw [e] at h; cases h
  | some n => rw [e] at h; exact ⟨n, rfl, (Option.some.inj h).symm⟩
theorem lt_at {α : Type} {l : List α} {i : Nat} {x : α} (h : l[i]? = some x) : i < l.length := (List.getElem?_eq_some_iff.mp h).1
theorem sz_lt {n : Nat} (h : n < 100000) : n < sizeLine := Nat.lt_of_lt_of_le h (by decide)
theorem sz_le {n : Nat} (h : n ≤ 100000) : n ≤ sizeLine := Nat.le_trans h (by decide)
/-! ### data, texts -/
theorem len_cat (x y : Str) : (x ++ y).length = x.length + y.length := by rw [TL.len_tl, TL.tl_append, List.length_append, ← TL.len_tl, ← TL.len_tl]
theorem strOk_of {x : Str} (h : ∀ c ∈ x.cps.toList, c < 1114112) : PyData.strOk x = true := by
  unfold PyData.strOk; rw [← Array.all_toList, List.all_eq_true]; exact fun c hc => decide_eq_true (h c hc)
theorem strOk_mem {x : Str} (h : PyData.strOk x = true) : ∀ c ∈ x.cps.toList, c < 1114112 := by
  unfold PyData.strOk at h; rw [← Array.all_toList, List.all_eq_true] at h; exact fun c hc => of_decide_eq_true (h c hc)
theorem strOk_cat {x y : Str} (hx : PyData.strOk x = true) (hy : PyData.strOk y = true) : PyData.strOk (x ++ y) = true := strOk_of fun c hc => by
  have e : (x ++ y).cps.toList = x.cps.toList ++ y.cps.toList := TL.tl_append x y
  rw [e] at hc
  rcases List.mem_append.mp hc with h | h
  · exact strOk_mem hx c h
  · exact strOk_mem hy c h
theorem strOk_sign {x : Str} {c : Nat} (hx : PyData.strOk x = true) (h : c ∈ x.cps.toList) : PyData.strOk (⟨#[c]⟩ : Str) = true := strOk_of fun d hd => by
  have : d = c := by simpa using hd
  subst this; exact strOk_mem hx _ h
theorem shaped_list {ds : List PyData} (h1 : PyData.canLayAll0 ds = true) (h2 : PyData.depthAll ds ≤ 60) : SeqAt.shaped (.list ds) = true := by
  unfold SeqAt.shaped; rw [Bool.and_eq_true]
  exact ⟨by rw [PyData.canLay0]; exact h1, decide_eq_true (by rw [PyData.depth]; omega)⟩
theorem dpAll_strs {K : PySem.W.Frag} {H : Hp} : ∀ l : List Str, DpAll K H (l.map V.str) (l.map PyData.str)
  | [] => .nil
  | x :: r => .cons (.str x) (dpAll_strs r)
theorem lay_strs : ∀ l : List Str, (∀ z ∈ l, PyData.strOk z = true) → PyData.canLayAll0 (l.map PyData.str) = true
  | [], _ => rfl
  | x :: r, h => by
    rw [List.map_cons, PyData.canLayAll0, lay_strs r fun z hz => h z (List.mem_cons_of_mem _ hz), PyData.canLay0, h x List.mem_cons_self]; rfl
theorem depth_strs : ∀ l : List Str, PyData.depthAll (l.map PyData.str) = 0
  | [] => rfl
  | x :: r => by simp [PyData.depthAll, PyData.depth, depth_strs r]
theorem shaped_strs {l : List Str} (h : ∀ z ∈ l, PyData.strOk z = true) : SeqAt.shaped (.list (l.map PyData.str)) = true := shaped_list (lay_strs l h) (by rw [depth_strs]; decide)
theorem eqv_same {d : PyData} (h : SeqAt.shaped d = true) : PyData.eqv d d = true := SeqAt.eqv_refl d (SeqAt.canLay_of_shaped h)
theorem at_z {α : Type} {xs : List α} {z : Int} {j : Nat} {v : α} (e : z = (j : Int)) (h : xs[j]? = some v) : atI xs z = some v := by
  rw [e]; exact atI_nat h
section
variable {K : PySem.W.Frag} {σ : L2.St} {H : Hp} {Q : VK} {te to : TE}
theorem g_two {Q : Int → Int → Prop} {i j : Int} (h : Q i j) : ∃ a b, [V.int i, V.int j] = [.int a, .int b] ∧ Q a b := ⟨i, j, rfl, h⟩
theorem g_lenStr {Q : Str → Prop} {x : Str} (hl : x.length ≤ sizeLine) (h : Q x) : ∃ y, [V.str x] = [.str y] ∧ y.length ≤ sizeLine ∧ Q y := ⟨x, rfl, hl, h⟩
theorem g_m1 {r : V → List V → Hp → VK → Prop} (h : to σ H fun x H1 => (∃ a, x = .str a) ∧ te σ H1 fun y H2 => r x [y] H2 Q) : tM1 r to te σ H Q := h
theorem g_isS {x : Str} {R : Prop} (h : R) : (∃ a, V.str x = .str a) ∧ R := ⟨⟨x, rfl⟩, h⟩
theorem g_addS {x y : Str} {Q : Str → Str → Prop} (hz : x.length + y.length ≤ sizeLine) (h : Q x y) : ∃ i j, V.str x = .str i ∧ V.str y = .str j ∧ i.length + j.length ≤ sizeLine ∧ Q i j := ⟨x, y, rfl, rfl, hz, h⟩
theorem g_mulS {x : Str} {n : Int} {Q : Str → Int → Prop} (h1 : x.length ≤ 16) (h2 : n ≤ 1048576) (h3 : -(2 ^ 63 : Int) ≤ n) (h : Q x n) : ∃ z m, V.str x = .str z ∧ V.int n = .int m ∧ z.length ≤ 16 ∧ m ≤ 1048576 ∧ -(2 ^ 63 : Int) ≤ m ∧ Q z m := ⟨x, n, rfl, rfl, h1, h2, h3, h⟩
theorem g_join {x : Str} {p : Addr} {ys : List Str} {Q : Str → List Str → Prop} (hS : SqL K H p (ys.map V.str)) (hz : (ys.map (·.length)).sum + ys.length * x.length ≤ 16777216) (h : Q x ys) :
    ∃ a p', ∃ zs : List Str, V.str x = .str a ∧ [V.ref p] = [.ref p'] ∧ (SqL K H p' (zs.map V.str) ∨ SqT K H p' (zs.map V.str)) ∧ (zs.map (·.length)).sum + zs.length * a.length ≤ 16777216 ∧ Q a zs := ⟨x, p, ys, rfl, rfl, .inl hS, hz, h⟩
end
theorem map_atG {α : Type} {f : α → V} {l : List α} {i : Nat} {x : V} (h : (l.map f)[i]? = some x) : ∃ a, l[i]? = some a ∧ x = f a := by
  rw [List.getElem?_map] at h
  cases e : l[i]? with
  | none => rw [e] at h; cases h
  | some n => rw [e] at h; exact ⟨n, rfl, (Option.some.inj h).symm⟩
theorem foldl_cps (c : Array Nat) : ∀ (k : Nat) (acc : Array Nat), ((List.replicate k c).foldl (· ++ ·) acc).toList = acc.toList ++ (List.replicate k c.toList).flatten
  | 0, acc => by simp
  | k + 1, acc => by rw [List.replicate_succ, List.foldl_cons, foldl_cps c k, List.replicate_succ]; simp
theorem flat_one (a : Nat) : ∀ k : Nat, (List.replicate k [a]).flatten = List.replicate k a
  | 0 => rfl
  | k + 1 => by rw [List.replicate_succ, List.flatten_cons, flat_one a k, List.replicate_succ]; rfl
/-- one sign, n times -/
theorem mul_one_sign (c : Nat) (n : Int) : Txt.mul (⟨#[c]⟩ : Str) n = ⟨(List.replicate n.toNat c).toArray⟩ := by
  refine TL.ext_tl ?_
  show TL.tl _ = List.replicate n.toNat c
  unfold Txt.mul
  by_cases h1 : n < 1
  · rw [if_pos h1, show n.toNat = 0 by omega]; rfl
  · rw [if_neg h1]
    split
    · rename_i h
      have : n = 1 := by
        rcases Bool.or_eq_true_iff.mp h with h | h
        · exact eq_of_beq h
        · cases h
      subst this; rfl
    · show ((List.replicate n.toNat #[c]).foldl (· ++ ·) #[]).toList = _
      rw [foldl_cps]
      show [] ++ (List.replicate n.toNat [c]).flatten = _
      rw [flat_one]; rfl
/-! ### [f x for row in rows for x in row] -/
section
variable {K : PySem.W.Frag} {σ : L2.St} {H : Hp} {Q : VK} {te : TE} {wi wi1 : TI} {g g1 : TG} {tt tt1 : TT} {vs vs1 : List Nat} {p : Addr}
def tLc2K (g : TG) (tt : TT) (wi1 : TI) (g1 : TG) (tt1 : TT) (te : TE) (vs vs1 : List Nat) (σ : L2.St) (Q : VK) (J : It) (H1 : Hp) : Prop := ∀ D, H1 D = none → ∃ W : Nat → Nat → Hp → Prop, (∃ m, W 0 m (upd H1 D (.lst []))) ∧ ∀ i m H, W i m H →
  (J.stop i H ∧ Q (.ref D) H) ∨ (J.go i H ∧ ∃ Nx : Hp → Prop, (∀ H', Nx H' → ∃ m', m' < m ∧ W (i + 1) m' H') ∧ ∀ x H', J.yld i H x H' → g x (wipe σ vs) H' fun σ2 H2 => wipe σ2 vs = wipe σ vs ∧ tt σ2 H2 fun b H3 =>
    if b = true then wi1 σ2 H3 fun J1 H4 => ∃ W1 : Nat → Nat → Hp → Prop, (∃ m, W1 0 m H4) ∧ ∀ j k H, W1 j k H →
      (J1.stop j H ∧ Nx H) ∨ (J1.go j H ∧ ∃ Nx1 : Hp → Prop, (∀ H', Nx1 H' → ∃ k', k' < k ∧ W1 (j + 1) k' H') ∧ ∀ x H', J1.yld j H x H' → g1 x (wipe σ2 vs1) H' fun σ3 H5 => wipe σ3 vs1 = wipe σ2 vs1 ∧ tt1 σ3 H5 fun b H6 =>
        if b = true then te σ3 H6 fun y H7 => ∃ acc, H7 D = some (.lst acc) ∧ acc.length < sizeLine ∧ Nx1 (upd H7 D (.lst (acc ++ [y]))) else Nx1 H6)
    else Nx H3)
theorem g_lc2 (h : wi σ H (tLc2K g tt wi1 g1 tt1 te vs vs1 σ Q)) : tLc2 wi g tt wi1 g1 tt1 te vs vs1 σ H Q := h
theorem f_lc2Map {j1 j2 : Nat} {ps : List Addr} (row : Addr → List V) (hS : SqL K H p (ps.map V.ref)) (hr : ∀ a ∈ ps, SqL K H a (row a)) (hz : ((ps.map row).flatten).length ≤ 100000) (f : V → V)
    (hw : ∀ x, wipe ((wipe σ vs).set j1 (some x)) vs = wipe σ vs) (hj : ∀ x, ((wipe σ vs).set j1 (some x))[j1]? = some (some x)) (hw1 : ∀ x y, wipe ((wipe ((wipe σ vs).set j1 (some x)) vs1).set j2 (some y)) vs1 = wipe ((wipe σ vs).set j1 (some x)) vs1)
    (he : ∀ a x H' (Q' : VK), a ∈ ps → x ∈ row a → Same H H' → Q' (f x) H' → te ((wipe ((wipe σ vs).set j1 (some (.ref a))) vs1).set j2 (some x)) H' Q') (hd : ∀ D, H D = none → Q (.ref D) (upd H D (.lst (((ps.map row).flatten).map f)))) :
    ∃ a, V.ref p = .ref a ∧ (∃ xs, SqL K H a xs) ∧ tLc2K (gName j1) tYes (iList K (tVar j1)) (gName j2) tYes te vs vs1 σ Q (Itl K a) H := by
  refine ⟨p, rfl, ⟨_, hS⟩, fun D nD => ⟨fun i m H' => m = ps.length - i ∧ i ≤ ps.length ∧ H' = upd H D (.lst ((((ps.take i).map row).flatten).map f)), ⟨ps.length, rfl, Nat.zero_le _, rfl⟩, ?_⟩⟩
  rintro i m H' ⟨rfl, hi, rfl⟩
  have hS' : SqL K (upd H D (.lst ((((ps.take i).map row).flatten).map f))) p (ps.map V.ref) := (same_new nD).seq hS
  by_cases hlt : i < ps.length
  · have ei : ps[i]? = some ps[i] := List.getElem?_eq_getElem hlt
    generalize ps[i] = a at ei
    have ex : (ps.map V.ref)[i]? = some (.ref a) := by rw [List.getElem?_map, ei]; rfl
    have ha := List.mem_of_getElem? ei
    refine .inr ⟨⟨_, _, hS', ex⟩, fun H2 => H2 = upd H D (.lst ((((ps.take (i + 1)).map row).flatten).map f)), fun H2 e => ⟨ps.length - (i + 1), by omega, rfl, hlt, e⟩, fun x H2 hy => ?_⟩
    obtain ⟨rfl, fx⟩ := hy
    have : x = .ref a := Option.some.inj ((fx _ hS').symm.trans ex)
    subst this
    refine ⟨hw _, ?_⟩
    suffices hh : iList K (tVar j1) ((wipe σ vs).set j1 (some (.ref a))) (upd H D (.lst ((((ps.take i).map row).flatten).map f))) (fun J1 H4 => ∃ W1 : Nat → Nat → Hp → Prop, (∃ m, W1 0 m H4) ∧ ∀ j k H3, W1 j k H3 →
      (J1.stop j H3 ∧ H3 = upd H D (.lst ((((ps.take (i + 1)).map row).flatten).map f))) ∨ (J1.go j H3 ∧ ∃ Nx1 : Hp → Prop, (∀ H', Nx1 H' → ∃ k', k' < k ∧ W1 (j + 1) k' H') ∧ ∀ x H', J1.yld j H3 x H' → gName j2 x (wipe ((wipe σ vs).set j1 (some (.ref a))) vs1) H' fun σ3 H5 => wipe σ3 vs1 = wipe ((wipe σ vs).set j1 (some (.ref a))) vs1 ∧ tYes σ3 H5 fun b H6 =>
        if b = true then te σ3 H6 fun y H7 => ∃ acc, H7 D = some (.lst acc) ∧ acc.length < sizeLine ∧ Nx1 (upd H7 D (.lst (acc ++ [y]))) else Nx1 H6)) by exact hh
    have hra : SqL K H a (row a) := hr a ha
    refine ⟨.ref a, hj _, a, rfl, ⟨_, (same_new nD).seq hra⟩, fun j k H3 => k = (row a).length - j ∧ j ≤ (row a).length ∧ H3 = upd H D (.lst ((((ps.take i).map row).flatten ++ (row a).take j).map f)), ⟨(row a).length, rfl, Nat.zero_le _, by rw [List.take_zero, List.append_nil]⟩, ?_⟩
    rintro j k H3 ⟨rfl, hjl, rfl⟩
    have hra' : SqL K (upd H D (.lst ((((ps.take i).map row).flatten ++ (row a).take j).map f))) a (row a) := (same_new nD).seq hra
    have etk : ((ps.take (i + 1)).map row).flatten = ((ps.take i).map row).flatten ++ row a := by rw [List.take_succ, ei]; simp
    by_cases hj2 : j < (row a).length
    · have ej : (row a)[j]? = some (row a)[j] := List.getElem?_eq_getElem hj2
      generalize (row a)[j] = y at ej
      refine .inr ⟨⟨_, _, hra', ej⟩, fun H4 => H4 = upd H D (.lst ((((ps.take i).map row).flatten ++ (row a).take (j + 1)).map f)), fun H4 e => ⟨(row a).length - (j + 1), by omega, rfl, hj2, e⟩, fun x H4 hy => ?_⟩
      obtain ⟨rfl, fy⟩ := hy
      have : x = y := Option.some.inj ((fy _ hra').symm.trans ej)
      subst this
      refine ⟨hw1 _ _, ?_⟩
      suffices hh : te ((wipe ((wipe σ vs).set j1 (some (.ref a))) vs1).set j2 (some x)) (upd H D (.lst ((((ps.take i).map row).flatten ++ (row a).take j).map f))) (fun y H7 => ∃ acc, H7 D = some (.lst acc) ∧ acc.length < sizeLine ∧ upd H7 D (.lst (acc ++ [y])) = upd H D (.lst ((((ps.take i).map row).flatten ++ (row a).take (j + 1)).map f))) by exact hh
      refine he a x _ _ ha (List.mem_of_getElem? ej) (same_new nD) ⟨_, upd_same, sz_lt ?_, ?_⟩
      · have h1 : (((ps.take i).map row).flatten ++ row a).length ≤ ((ps.map row).flatten).length := by
          rw [← etk]
          have : (ps.map row).flatten = ((ps.take (i + 1)).map row).flatten ++ ((ps.drop (i + 1)).map row).flatten := by rw [← List.flatten_append, ← List.map_append, List.take_append_drop]
          rw [this, List.length_append]; omega
        rw [List.length_append] at h1
        rw [List.length_map, List.length_append, List.length_take]; omega
      · rw [upd_upd, List.take_succ, ej, ← List.append_assoc]; simp
    · refine .inl ⟨⟨_, hra', by omega⟩, ?_⟩
      rw [etk, show j = (row a).length by omega, List.take_length]
  · refine .inl ⟨⟨_, hS', by rw [List.length_map]; omega⟩, ?_⟩
    rw [show i = ps.length by omega, List.take_length]
    exact hd D nD
end
section
variable {K : PySem.W.Frag} {σ : L2.St} {H : Hp} {Q : VK}
theorem g_ckw {r : List V → List V → Hp → VK → Prop} {tr tk : TA} (h : tr σ H fun vs H1 => tk σ H1 fun zs H2 => r vs zs H2 Q) : tCKw r tr tk σ H Q := h
theorem g_iZip {ta : TA} {R : It → Hp → Prop} (h : ta σ H fun vs H1 => ∃ a b xs ys, vs = [.ref a, .ref b] ∧ SqL K H1 a xs ∧ SqL K H1 b ys ∧ R (Itz K a b) H1) : iZip K ta σ H R := h
theorem g_pad {x : Str} {i : Int} {Q : Str → Int → Prop} (hp : PadOk i = true) (h : Q x i) : ∃ a j, V.str x = .str a ∧ [V.int i] = [.int j] ∧ PadOk j = true ∧ Q a j := ⟨x, i, rfl, rfl, hp, h⟩
theorem padOk_small {i : Int} (h0 : 0 ≤ i) (h : i ≤ 100000) : PadOk i = true := by
  have hz : i.toNat ≤ sizeLine := sz_le (by omega)
  unfold PadOk fitsSsize Builtin.Str.tooLong
  rw [Bool.and_eq_true]
  refine ⟨?_, ?_⟩
  · simp; omega
  · simp; omega
end
section
variable {K : PySem.W.Frag} {σ : L2.St} {H : Hp} {Q : VK} {ta tb : TE}
theorem g_andV (h : ta σ H fun x H1 => ∃ c, x = .bl c ∧ if c = true then tb σ H1 Q else Q (.bl false) H1) : tAndV ta tb σ H Q := h
theorem g_orV (h : ta σ H fun x H1 => ∃ c, x = .bl c ∧ if c = true then Q (.bl true) H1 else tb σ H1 Q) : tOrV ta tb σ H Q := h
theorem iteNT {A B : Prop} (h : B) : if (!true) = true then A else B := by simpa using h
theorem iteNF {A B : Prop} (h : A) : if (!false) = true then A else B := by simpa using h
theorem g_listOf {p : Addr} {xs : List V} {Q : List V → Prop} (hs : SqL K H p xs) (h : Q xs) : ∃ p' ys, [V.ref p] = [.ref p'] ∧ (SqL K H p' ys ∨ SqT K H p' ys) ∧ Q ys := ⟨p, xs, rfl, .inl hs, h⟩
/-- isinstance of a text, an int, a list .. -/
theorem g_isiB {x : V} {T U : String} {b : Bool} (ty : TyX K H x (.type T)) (e : kitB T U = some b) (h : Q (.bl b) H) : rIsi K [x, .ty U] H Q := ⟨x, .ty U, _, _, b, rfl, .ty U, ty, kit_ty e, h⟩
end
/-! ### while, break, texts, powers -/
section
variable {K : PySem.W.Frag} {σ : L2.St} {H : Hp} {Q : VK} {D : Ends} {ta tb te : TE} {c : TT} {tbd : TS}
theorem f_while (W : Nat → L2.St → Hp → Prop) (m0 : Nat) (h0 : W m0 σ H)
    (hs : ∀ m σ H, W m σ H → c σ H fun b H1 => if b = true then ∃ N : L2.St → Hp → Prop, (∀ σ' H', N σ' H' → ∃ m', m' < m ∧ W m' σ' H') ∧ tbd { D with nx := N, ct := N, bk := D.nx } σ H1 else D.nx σ H1) : tWhile c tbd D σ H :=
  ⟨W, ⟨m0, h0⟩, hs⟩
theorem g_turn {W : Nat → L2.St → Hp → Prop} {m : Nat} {r : VK} {bk : L2.St → Hp → Prop} (h : tbd { nx := fun σ' H' => ∃ m', m' < m ∧ W m' σ' H', rt := r, bk := bk, ct := fun σ' H' => ∃ m', m' < m ∧ W m' σ' H' } σ H) :
    ∃ N : L2.St → Hp → Prop, (∀ σ' H', N σ' H' → ∃ m', m' < m ∧ W m' σ' H') ∧ tbd { nx := N, rt := r, bk := bk, ct := N } σ H := ⟨_, fun _ _ h => h, h⟩
theorem g_aug {k : Nat} {x : V} {ti : TIp} (e : σ[k]? = some (some x)) (h : te σ H fun y H1 => ti x y H1 fun z H2 => D.nx (σ.set k (some z)) H2) : tAug k te ti D σ H := ⟨x, e, h⟩
theorem g_ipI {g : Int → Int → Int} {i j : Int} (h : Q (.int (g i j)) H) : ipI g (.int i) (.int j) H Q := ⟨i, j, rfl, rfl, h⟩
theorem g_brk (h : D.bk σ H) : tBreak D σ H := h
theorem g_cont (h : D.ct σ H) : tCont D σ H := h
def CPowW (i j : Int) : Prop := 0 ≤ j ∧ (Builtin.Int.intBits i : Int) * j ≤ 2 ^ 27
theorem op_powW {X : Cx} : OpR X (binaryOp .Pow) (rI CPowW fun i j => .int (i ^ j.toNat)) := opI fun _ _ _ _ _ _ _ hc q => PyProof.Rows.pow_int hc.1 hc.2 q
theorem g_slS {x : Str} {lo hi : Option Int} {y : Str} (hl : x.length ≤ sizeLine) (e : cutS x lo hi = y) (h : Q (.str y) H) : rSlS (.str x) lo hi H Q := ⟨x, rfl, hl, by rw [e]; exact h⟩
/-- a slice of a text, both ends within or beyond -/
theorem cutS_nat (l : List Nat) (a b : Nat) : cutS (⟨l.toArray⟩ : Str) (some (a : Int)) (some (b : Int)) = ⟨((l.drop a).take (b - a)).toArray⟩ := by
  unfold cutS
  have e : (⟨l.toArray⟩ : Str).length = l.length := by simp [Str.length]
  rw [e, show HT.sIx l.length 0 (some (a : Int)) = min a l.length from HT.sIx_nat l.length 0 a, show HT.sIx l.length l.length (some (b : Int)) = min b l.length from HT.sIx_nat l.length l.length b]
  refine congrArg (fun l : List Nat => (⟨l.toArray⟩ : Str)) ?_
  show (l.drop (min a l.length)).take _ = _
  by_cases ha : a ≤ l.length
  · rw [Nat.min_eq_left ha]
    by_cases hb : b ≤ l.length
    · rw [Nat.min_eq_left hb]
    · rw [Nat.min_eq_right (by omega), List.take_of_length_le (by rw [List.length_drop] <;> omega), List.take_of_length_le (by rw [List.length_drop]; omega)]
  · rw [Nat.min_eq_right (show l.length ≤ a by omega), List.drop_of_length_le (Nat.le_refl _), List.drop_of_length_le (show l.length ≤ a by omega), List.take_nil, List.take_nil]
theorem cutS_to (l : List Nat) (b : Nat) : cutS (⟨l.toArray⟩ : Str) none (some (b : Int)) = ⟨(l.take b).toArray⟩ := by
  unfold cutS
  have e : (⟨l.toArray⟩ : Str).length = l.length := by simp [Str.length]
  rw [e, HT.sIx_none, show HT.sIx l.length l.length (some (b : Int)) = min b l.length from HT.sIx_nat l.length l.length b]
  refine congrArg (fun l : List Nat => (⟨l.toArray⟩ : Str)) ?_
  show (l.drop 0).take _ = _
  rw [List.drop_zero, Nat.sub_zero]
  by_cases hb : b ≤ l.length
  · rw [Nat.min_eq_left hb]
  · rw [Nat.min_eq_right (by omega), List.take_length, List.take_of_length_le (by omega)]
theorem g_sign {a : Nat} {z : Str} {Q : Nat → Str → Prop} (h : Q a z) : ∃ (c : Nat) (y : Str), V.str (⟨#[a]⟩ : Str) = .str ⟨#[c]⟩ ∧ V.str z = .str y ∧ Q c y := ⟨a, z, rfl, rfl, h⟩
end
section
variable {K : PySem.W.Frag} {σ : L2.St} {H : Hp} {Q : VK} {p : Addr} {tt : TT} {vs : List Nat}
theorem filt_snoc {ns : List Int} {ok : Int → Bool} {i : Nat} {n : Int} (h : ns[i]? = some n) : ((ns.take (i + 1)).filter ok) = (ns.take i).filter ok ++ (if ok n = true then [n] else []) := by
  rw [List.take_succ, h, List.filter_append]
  cases e : ok n <;> simp [e]
/-- [x for x in ints if ..], a test that makes nothing -/
theorem f_lcFilt {j : Nat} {ns : List Int} (hS : SqL K H p (ns.map V.int)) (hz : ns.length ≤ 90000) (ok : Int → Bool) (hw : ∀ x, wipe ((wipe σ vs).set j (some x)) vs = wipe σ vs) (hj : ∀ x, ((wipe σ vs).set j (some x))[j]? = some (some x))
    (ht : ∀ (i : Nat) n H' (Q' : Bool → Hp → Prop), ns[i]? = some n → Same H H' → Q' (ok n) H' → tt ((wipe σ vs).set j (some (.int n))) H' Q') (hd : ∀ D, H D = none → Q (.ref D) (upd H D (.lst ((ns.filter ok).map V.int)))) :
    ∃ a, V.ref p = .ref a ∧ (∃ xs, SqL K H a xs) ∧ tLcK (gName j) tt (tVar j) vs σ Q (Itl K a) H :=
  f_lcL hS (fun D i H' => H' = upd H D (.lst (((ns.take i).filter ok).map V.int))) (fun D _ => rfl) (fun D i H' nD _ e => by rw [e]; exact (same_new nD).seq hS)
    (fun D i x H' nD hx e => by
      obtain ⟨n, hn, rfl⟩ := map_at hx
      refine ⟨hw _, ht i n H' _ hn (by rw [e]; exact same_new nD) ?_⟩
      have sn := filt_snoc (ok := ok) hn
      subst e
      cases ho : ok n with
      | true =>
        rw [ho] at sn
        refine iteT ⟨_, hj _, _, upd_same, sz_lt ?_, ?_⟩
        · rw [List.length_map]
          have h1 := List.length_filter_le ok (ns.take i)
          rw [List.length_take] at h1; omega
        · rw [upd_upd, sn, List.map_append]; rfl
      | false =>
        rw [ho] at sn
        refine iteF ?_
        show upd H D _ = upd H D _
        rw [sn]; simp)
    fun D H' nD e => by
      rw [e, List.length_map, List.take_length]
      exact hd D nD
theorem filt_range {m i : Nat} {ok : Nat → Bool} : (List.range (i + 1)).filter ok = (List.range i).filter ok ++ (if ok i = true then [i] else []) := by
  rw [List.range_succ, List.filter_append]
  cases e : ok i <;> simp [e]
/-- [k for k in range(m) if ..], a test that makes nothing -/
theorem f_lcFiltR {j : Nat} {z : Int} {m : Nat} (hm : z = m) (hz : m ≤ 90000) (ok : Nat → Bool) (hw : ∀ x, wipe ((wipe σ vs).set j (some x)) vs = wipe σ vs) (hj : ∀ x, ((wipe σ vs).set j (some x))[j]? = some (some x))
    (ht : ∀ (i : Nat) H' (Q' : Bool → Hp → Prop), i < m → Same H H' → Q' (ok i) H' → tt ((wipe σ vs).set j (some (.int (i : Int)))) H' Q') (hd : ∀ D, H D = none → Q (.ref D) (upd H D (.lst (((List.range m).filter ok).map fun k : Nat => V.int (k : Int))))) :
    ∃ j' : Int, [V.int z] = [.int j'] ∧ -(2 ^ 62) ≤ j' ∧ j' < 2 ^ 62 ∧ tLcK (gName j) tt (tVar j) vs σ Q (Itr 0 j'.toNat) H := by
  subst hm
  refine f_lcR (by omega) (by omega) (fun D i H' => H' = upd H D (.lst (((List.range i).filter ok).map fun k : Nat => V.int (k : Int)))) (fun D _ => rfl)
    (fun D i H' nD hi e => ?_) fun D H' nD e => ?_
  · have hi : i < m := by omega
    refine ⟨hw _, ht i H' _ hi (by rw [e]; exact same_new nD) ?_⟩
    have sn := filt_range (m := m) (i := i) (ok := ok)
    subst e
    cases ho : ok i with
    | true =>
      rw [ho] at sn
      refine iteT ⟨_, hj _, _, upd_same, sz_lt ?_, ?_⟩
      · rw [List.length_map]
        have h1 := List.length_filter_le ok (List.range i)
        rw [List.length_range] at h1; omega
      · rw [upd_upd, sn, List.map_append]; rfl
    | false =>
      rw [ho] at sn
      refine iteF ?_
      show upd H D _ = upd H D _
      rw [sn]; simp
  · rw [e, Int.toNat_natCast]
    exact hd D nD
end
section
variable {K : PySem.W.Frag} {H : Hp} {Q : VK} {p : Addr} {xs : List V} {v : V}
theorem g_ixT {z : Int} (hs : SqT K H p xs) (ha : atI xs z = some v) (h : Q v H) : rIxT K (.ref p) (.int z) H Q := ⟨p, xs, z, v, rfl, rfl, hs, ha, h⟩
theorem g_lenT {Q : List V → Prop} (hs : SqT K H p xs) (h : Q xs) : ∃ p' ys, [V.ref p] = [.ref p'] ∧ (SqL K H p' ys ∨ SqT K H p' ys) ∧ Q ys := ⟨p, xs, rfl, .inr hs, h⟩
theorem g_isiS {x : Str} {U : String} {b : Bool} (e : kitB "str" U = some b) (h : Q (.bl b) H) : rIsi K [.str x, .ty U] H Q := g_isiB (.base (.str _)) e h
theorem g_isiI {i : Int} {U : String} {b : Bool} (e : kitB "int" U = some b) (h : Q (.bl b) H) : rIsi K [.int i, .ty U] H Q := g_isiB (.base (.int _)) e h
end
theorem log_small {i : Int} (h0 : 0 ≤ i) (h : i ≤ 1000000) : i.natAbs.log2 < 1920 := by
  by_cases hz : i.natAbs = 0
  · rw [hz]; decide
  · exact Nat.lt_trans ((Nat.log2_lt hz (k := 20)).mpr (by omega)) (by decide)
theorem my_c0 {X : Cx} {k j : Nat} {x : Str} {sp : Sp} {dvs : List V} {p pos : Pos} (c : C8.Cal X.prog X.w X.K X.mg X.base k x sp dvs) (hr : Room j X.A) (hk : k ≤ j) (hg : Gl X x) (hdb : (x == ("__debug__" : Str)) = false := by decide) : PE X (.Call (.Name x p) [] [] pos) (tCall sp dvs C8.E0 tNil) := by
  obtain ⟨f, fd, ps, ds, F, hm, kp, b, d⟩ := c.ex
  exact pe_call0 F (hr.mono hk) hg hm kp b d C8.pass0 hdb
section
variable {σ : L2.St} {H : Hp} {Q : VK} {ta tb tc : TE} {r r' : R2}
theorem g_chain (h : ta σ H fun x H1 => tb σ H1 fun y H2 => r x y H2 fun z H3 => ∃ k, z = .bl k ∧ (if k = true then tc σ H3 fun w' H4 => r' y w' H4 Q else Q (.bl false) H3)) : tChain r r' ta tb tc σ H Q := h
end
section
variable {σ : L2.St} {H : Hp} {Q : VK} {ta : TE}
theorem g_notV (h : ta σ H fun x H1 => ∃ c, x = .bl c ∧ Q (.bl (!c)) H1) : tNotV ta σ H Q := h
end
section
variable {σ : L2.St} {H : Hp} {t : TG} {ts : TGs} {x : V} {r : List V} {Q : L2.St → Hp → Prop}
theorem g_gcons (h : t x σ H fun σ' H' => ts r σ' H' Q) : gCons t ts (x :: r) σ H Q := by first | exact h | exact ⟨x, r, rfl, h⟩
theorem g_gnil (h : Q σ H) : gNil [] σ H Q := by first | exact h | exact ⟨rfl, h⟩
end
end WL
set_option Elab.async false
set_option linter.all false
set_option maxRecDepth 100000
set_option maxHeartbeats 4000000
namespace WExc
open PySem PySem.Spec PyProof.Rows L2 NdefX PySem.W
/-! ### ValueError.__init__ bound to an instance (what super().__init__ gives), called -/
section
open PySem.Calls
variable {prog : Program} {w : World} {A : Around} {E : Value → Shared → Prop} {h : Heap} {g : Array GenState} {d : Drawn} {t : Nat} {os : OsState}
variable {nm q : Str} {C N : Addr} {bs bm : List Value} {hdct : Bool} {sn : List Str} {sub : List Value} {ab : Bool} {col : Option Bool} {dd : Option Addr} {k0 k1 k2 k3 k5 : Option Value}
theorem call_mwV {u e t0 : Addr} {rest : List Value} {Q : Value → Shared → Prop}
    (hC : h.get? C = some (excClassObj nm q C N bs bm hdct sn sub ab col dd k0 k1 k2 k3 k5 "ValueError.__new__")) (he : h.get? e = some (HandSPX.excO C t0)) (hu : h.get? u = some (kxs_mw "ValueError.__init__" e)) (hrest : rest.length ≤ sizeLine)
    (hq : ∀ h' t1, (∀ b o, b ≠ e → h.get? b = some o → h'.get? b = some o) → h'.get? e = some (HandSPX.excO C t1) → Q .none ⟨h', g, d, t, os⟩) :
    wpAny (model prog w) A (call (.ref u) rest) Q E ⟨h, g, d, t, os⟩ := by
  refine wpAny_call (codeAny_of_tree ?_)
  show wpAny _ A.in1 (callAny (.ref u) ⟨rest, []⟩) _ _ _
  simp only [callAny]
  refine wpAny_bind (wpAny_load hu ?_)
  simp only [kxs_mw, show (Value.type "method-wrapper" == Value.type "method" || Value.type "method-wrapper" == Value.type "builtin_function_or_method" || Value.type "method-wrapper" == Value.type "method-wrapper") = true by decide, if_true]
  refine W.KFB.if_so (by decide) ?_
  refine wpAny_bind (check_bound_init F.excBase_ValueError.toExcCallFacts hC he rfl ?_)
  refine wpAny_bind (wpAny_pure (wpAny_pure ?_))
  refine ⟨Code.quiet_builtin _ (by decide +kernel), codeAny_builtin F.excBase_ValueError.initEntry ?_⟩
  rw [Around.under_plainId F.excBase_ValueError.init.plain _]
  wp_walk
  refine hq _ h.objs.size (fun b o hb ho => ?_) ?_
  · rw [Heap.get?_update_other _ _ (Ne.symm hb)]
    exact Heap.get?_push_of_some _ ho
  · rw [Heap.get?_update_self _ (Heap.get?_push_of_some _ he) rfl]
    rfl
end
/-- what the written part says of the class's own __init__ that says super() -/
structure SupK (P : Program) (K : PySem.W.Frag) (C cc cda : Addr) : Prop where
  cell : ∃ cl cld csl, K.lookup cc = some (⟨cl, cld, .cell (some (.ref C)), csl⟩ : Obj)
  code : ∃ ccl cdd vs ccs file tf, K.lookup cda = some (⟨ccl, cdd, .fields vs, ccs⟩ : Obj) ∧ vs[2]? = some (.str file tf) ∧ ((P.main.file : Str) == file) = true
  opq : nsIn K cStatics "thirdparty.any" = some none
  top : (P.main.scope.names.lookup ("super" : Str)).isSome = false
  sup : ks_superIn K C C "__init__" = some (some (.builtin "ValueError.__init__"))
abbrev supF (name qual : Str) (params : Arguments) (body : List Stmt) (scope : Scope) (cc cda : Addr) : NF := ⟨name, qual, params, body, scope, [("__class__", cc)], cda⟩
section
variable {CX : CXT} {P : Program} {w : World} {K : PySem.W.Frag} {mg : Str → Option Value} {base : Heap} {N ps ps' : List Str} {f cc cda C : Addr} {k : Nat} {sp : Sp} {name qual : Str} {params : Arguments} {body rest : List Stmt} {scope : Scope} {dV kV doc pm ct oc : Value} {an od : Option Addr} {osl : Array (Option Value)}
  {e : Expr} {es : List Expr} {p0 p1 p2 p3 p4 : Pos} {ar : Arg}
/-- the first statement super().__init__(..), then the rest -/
theorem sup_stmt {A : Around} {outer : List Env} {s0 s : Shared} {H0 H : Hp} {E : XK} {a : Addr} {σ : L2.St} {ta : TA} {t : TS} {D : Ends}
    (lk : K.lookup f = some (⟨oc, od, .func (fnX name qual params body scope [("__class__", cc)] dV kV doc pm an (.ref cda) ct), osl⟩ : Obj)) (T : OexC K C) (U : SupK P K C cc cda)
    (hself : (params.posonlyargs ++ params.args).head? = some ar) (har : ar.arg = "self") (hN : N[0]? = some ("self" : Str)) (hσ : σ[0]? = some (some (.ref a))) (hkself : scope.names.lookup ("self" : Str) = some .local)
    (hks : scope.names.lookup ("super" : Str) = some .globalImplicit) (hkc : scope.names.lookup ("__class__" : Str) = some .free) (hm : mg "super" = none)
    (he : starEach (e :: es) (envF (supF name qual params body scope cc cda) f s0.heap.objs.size) = (false, eval e (envF (supF name qual params body scope cc cda) f s0.heap.objs.size)) :: starEach es (envF (supF name qual params body scope cc cda) f s0.heap.objs.size))
    (hpl : (backTo p3 (starEach es (envF (supF name qual params body scope cc cda) f s0.heap.objs.size))).any (·.1) = false)
    (ha : PA (ncx CX P w K mg base N (supF name qual params body scope cc cda) f A outer s0 H0 E) (e :: es) ta) (hr : PSs (ncx CX P w K mg base N (supF name qual params body scope cc cda) f A outer s0 H0 E) rest t)
    (I : Inv (ncx CX P w K mg base N (supF name qual params body scope cc cda) f A outer s0 H0 E) [] σ H s) (hx : H a = some (exo a C none))
    (hq : ta σ H fun ws H1 => ws.length ≤ 1000 ∧ H1 a = some (exo a C none) ∧ t D σ H1)
    (hcl : eval (.Call (.Attribute (.Call (.Name "super" p0) [] [] p1) "__init__" p2) (e :: es) [] p3) (envF (supF name qual params body scope cc cda) f s0.heap.objs.size) = (do
      let ov ← attributeBase (.Call (.Name "super" p0) [] [] p1) "__init__" (envF (supF name qual params body scope cc cda) f s0.heap.objs.size) (eval (.Call (.Name "super" p0) [] [] p1) (envF (supF name qual params body scope cc cda) f s0.heap.objs.size))
      standAt p2.atName
      let (fv, first) ← holding [ov] (getMethod ov "__init__" (pure false))
      callWith p3 fv first (backTo p3 (starEach (e :: es) (envF (supF name qual params body scope cc cda) f s0.heap.objs.size))) []))
    (hkf : scope.kind = .function) (hint : interactive (envF (supF name qual params body scope cc cda) f s0.heap.objs.size) = false)
    (hsw : swapsWith (.Call (.Attribute (.Call (.Name "super" p0) [] [] p1) "__init__" p2) (e :: es) [] p3) none p4.line (envF (supF name qual params body scope cc cda) f s0.heap.objs.size) = pure false) :
    _root_.PySem.wpAt (model P w) (A.deeper (envF (supF name qual params body scope cc cda) f s0.heap.objs.size)) (.func body (envF (supF name qual params body scope cc cda) f s0.heap.objs.size))
      (execs (.Expr (.Call (.Attribute (.Call (.Name "super" p0) [] [] p1) "__init__" p2) (e :: es) [] p3) p4 :: rest) (envF (supF name qual params body scope cc cda) f s0.heap.objs.size))
      (SP (ncx CX P w K mg base N (supF name qual params body scope cc cda) f A outer s0 H0 E) [] D) (ncx CX P w K mg base N (supF name qual params body scope cc cda) f A outer s0 H0 E).xe s := by
  obtain ⟨nm, q, N', bs, bm, sn, sub, ab, col, dd, k0, k1, k2, k3, k5, hC, hbm⟩ := T.cls
  have hcl2 : PySem.W.clsIn K C = some { name := nm, bases := bs, mro := .ref C :: bm, ns := N', qualname := q, hasDict := true, slotNames := sn, subclasses := sub, abstract := ab, collection := col, hasDel := false } := by unfold PySem.W.clsIn; rw [hC] <;> rfl
  obtain ⟨cl, cld, csl, hcell⟩ := U.cell
  obtain ⟨ccl, cdd, vs, ccs, file, tf, hcode, hvs, hfile⟩ := U.code
  have X : K.In s.heap := I.kIn
  refine ks_wpAt_execs_cons ?_
  refine ks_wpAt_Expr_any ?_ hint hsw
  refine ks_wpAt_MethodCall (pl := pure false) ?_ hcl
  refine ks_wpAt_super_base (env := envF (supF name qual params body scope cc cda) f s0.heap.objs.size) hks hkc (by decide) rfl (X _ _ lk) rfl hself rfl (X _ _ hcode) rfl hvs hfile U.top ?_
  obtain ⟨mb, b1, b2⟩ := I.mod.blt
  refine ks_loadName_global hkf hks (Calls.loadGlobal_builtin (I.mod.glob.keeps I.bk) hm (b1.keeps I.bk) ((b2 "super" (by decide)).trans (show bootBuiltins "super" = some (.type "super") by first | boot_by_name | rfl | kernel_rfl)) ⟨rfl, ?_⟩)
  refine wpAny_loadName_free hkf hkc rfl ⟨_, X _ _ hcell, rfl⟩ ?_
  obtain ⟨m, hns, hloc⟩ := I.loc
  obtain ⟨u, ru, hu⟩ := hloc 0 "self" (.ref a) hN hσ (.inl hkself)
  obtain rfl : u = Value.ref a := ru
  have hms : m "self" = some (.ref a) := by
    rcases hu with ⟨_, z⟩ | ⟨z, _⟩
    · exact z
    · have z' : scope.names.lookup ("self" : Str) = some NameKind.cell ∨ scope.names.lookup ("self" : Str) = some .free := z
      rw [hkself] at z'
      rcases z' with z' | z' <;> cases z'
  rw [har]
  refine wpAny_loadName_local hkf hkself hns hms ?_
  obtain ⟨t1, hoe⟩ := exo_at I.hok hx
  have hD := X _ _ hC
  refine ks_wpAny_isType_cls hD rfl ⟨rfl, ?_⟩
  obtain ⟨hh, g, d, tk, os⟩ := s
  have hsubD : PySem.W.mroIn K C (.ref C) = some true := by
    unfold PySem.W.mroIn
    rw [hcl2, Option.bind_some]
    rw [if_neg (show ¬ (List.isEmpty (Value.ref C :: bm) = true) from Bool.false_ne_true)]
    simp
  refine ks_wpAny_call_super hD rfl hoe rfl (fun c e => by cases e) (looks_mroIn X hsubD) (fun h1 e1 kk1 => ?_)
  have I1 : Inv (ncx CX P w K mg base N (supF name qual params body scope cc cda) f A outer s0 H0 E) [] σ H ⟨h1, g, d, tk, os⟩ := I.kept (t' := tk) kk1
  have X1 : K.In h1 := I1.kIn
  obtain ⟨t2, hoe1⟩ := exo_at I1.hok hx
  have II : PySem.W.InstAt h1 a { cls := .ref C, dict := none, data := .fields #[.ref t2, .none, .none, .none, .bool false, .none] } C none := ⟨hoe1, rfl, rfl, trivial⟩
  have hVE : (Value.ref C :: bm).contains (.type "ValueError") = true := (PySem.HandSPX.refsVE_contains "ValueError" (.ref C :: bm) hbm).trans (by decide +kernel)
  have hsubV : PySem.W.Looks (model P w) h1 (isInstance (.ref a) (.type "ValueError")) true := II.type.andThen (PySem.W.looks_mroIn X1 (by unfold PySem.W.mroIn; rw [hcl2, Option.bind_some, if_neg (show ¬ (List.isEmpty (Value.ref C :: bm) = true) from Bool.false_ne_true), hVE]))
  have hsup := U.sup
  unfold ks_superIn at hsup
  rw [hcl2] at hsup
  refine kxs_getMethod kxs_ValueError e1 (looks_opaque X1 U.opq) (l₀ := .ref C :: bm) (fun A Q E s k q => wpAny_bind ((looks_clsIn X1 hcl2) A _ E s k (wpAny_pure q))) rfl X1 hsup hsubV (ks_ne X1 II hcl2) (by decide) ?_
  have kk2 : ∀ b o, h1.get? b = some o → (h1.push (kxs_mw "ValueError.__init__" a)).get? b = some o := fun b o e => Heap.get?_push_of_some _ e
  have hmw : (h1.push (kxs_mw "ValueError.__init__" a)).get? h1.objs.size = some (kxs_mw "ValueError.__init__" a) := Heap.get?_push_size _ rfl
  have I2 : Inv (ncx CX P w K mg base N (supF name qual params body scope cc cda) f A outer s0 H0 E) [] σ H ⟨h1.push (kxs_mw "ValueError.__init__" a), g, d, tk + 1, os⟩ := I1.kept (t' := tk + 1) kk2
  have nH : H h1.objs.size = none := I1.hok.fresh (Nat.le_refl _)
  have I3 : Inv (ncx CX P w K mg base N (supF name qual params body scope cc cda) f A outer s0 H0 E) [(h1.objs.size, kxs_mw "ValueError.__init__" a)] σ H ⟨h1.push (kxs_mw "ValueError.__init__" a), g, d, tk + 1, os⟩ := I2.pins_of fun p hp => by
    obtain rfl : p = (h1.objs.size, kxs_mw "ValueError.__init__" a) := by simpa using hp
    exact ⟨hmw, nH, Nat.ne_of_gt I1.lt, I1.nofs (Nat.le_refl _), fun v z => by cases z⟩
  rw [he]
  refine kxs_callWith (i := "ValueError.__init__") (x := a) hpl (Calls.evalArgs_plain ?_)
  have hrun := ha.run p3 _ _ σ H _ I3 hq
  have he' : starEach (e :: es) (ncx CX P w K mg base N (supF name qual params body scope cc cda) f A outer s0 H0 E).env = _ := he
  rw [he'] at hrun
  refine thn hrun fun us s1 ⟨ws, H1, I4, r1, hl, hx1, q1⟩ => ?_
  have hu4 := (I4.pin _ (List.mem_append_right _ (List.mem_singleton.mpr rfl))).1
  refine ⟨hu4, ?_⟩
  obtain ⟨t3, hoe2⟩ := exo_at I4.hok hx1
  obtain ⟨h4, g4, d4, tk4, os4⟩ := s1
  refine call_mwV (I4.kIn _ _ hC) hoe2 hu4 (by show us.length ≤ sizeLine; rw [← Paired.length r1, sizeLine_eq]; omega) fun h5 t5 k5' hx5 => ?_
  have I5 := I4.write (t' := tk4) (x := a) (e := a) (o := exo a C none) (by rw [hx1]; exact True.intro) (.inl rfl) k5' ⟨_, hx5⟩ (exo_ok hx5)
  have eu : upd H1 a (exo a C none) = H1 := by
    funext b
    by_cases hb : b = a
    · rw [hb, upd_same, hx1]
    · rw [upd_ne hb]
  rw [eu] at I5
  have I6 : Inv (ncx CX P w K mg base N (supF name qual params body scope cc cda) f A outer s0 H0 E) [] σ H1 _ := I5.pins_of fun p hp => absurd hp (by simp)
  exact wpAt_of_wpAny (hr.run [] _ σ H1 D I6 q1)
/-- THE RULE: an own exception's __init__ (self, ..) whose first statement is super().__init__(..) -/
theorem fn_sup (lk : K.lookup f = some (⟨oc, od, .func (fnX name qual params body scope [("__class__", cc)] dV kV doc pm an (.ref cda) ct), osl⟩ : Obj)) (hcd : codeIn K (.ref cda) qual = true) (S : NScope N ps ["__class__"] scope) (T : OexC K C) (U : SupK P K C cc cda)
    (hself : (params.posonlyargs ++ params.args).head? = some ar) (har : ar.arg = "self") (hps : ps.head? = some ("self" : Str)) (hks : scope.names.lookup ("super" : Str) = some .globalImplicit) (hm : mg "super" = none)
    (hb : body = .Expr (.Call (.Attribute (.Call (.Name "super" p0) [] [] p1) "__init__" p2) (e :: es) [] p3) p4 :: rest)
    (hfix : ∀ L : Addr, starEach (e :: es) (envF (supF name qual params body scope cc cda) f L) = (false, eval e (envF (supF name qual params body scope cc cda) f L)) :: starEach es (envF (supF name qual params body scope cc cda) f L) ∧
      (backTo p3 (starEach es (envF (supF name qual params body scope cc cda) f L))).any (·.1) = false ∧
      eval (.Call (.Attribute (.Call (.Name "super" p0) [] [] p1) "__init__" p2) (e :: es) [] p3) (envF (supF name qual params body scope cc cda) f L) = (do
        let ov ← attributeBase (.Call (.Name "super" p0) [] [] p1) "__init__" (envF (supF name qual params body scope cc cda) f L) (eval (.Call (.Name "super" p0) [] [] p1) (envF (supF name qual params body scope cc cda) f L))
        standAt p2.atName
        let (fv, first) ← holding [ov] (getMethod ov "__init__" (pure false))
        callWith p3 fv first (backTo p3 (starEach (e :: es) (envF (supF name qual params body scope cc cda) f L))) []) ∧
      interactive (envF (supF name qual params body scope cc cda) f L) = false ∧
      swapsWith (.Call (.Attribute (.Call (.Name "super" p0) [] [] p1) "__init__" p2) (e :: es) [] p3) none p4.line (envF (supF name qual params body scope cc cda) f L) = pure false)
    (len : ∀ vs H Q E, sp vs H Q E → vs.length = ps.length)
    (hbody : ∀ (A : Around) (outer : List Env) (s : Shared) (H : Hp) (vs : List V) (Q : VK) (E : XK), Room k (A.deeper (envF (supF name qual params body scope cc cda) f s.heap.objs.size)) → sp vs H Q E →
      ∃ a vs' ta t, vs = .ref a :: vs' ∧ PA (ncx CX P w K mg base N (supF name qual params body scope cc cda) f A outer s H E) (e :: es) ta ∧ PSs (ncx CX P w K mg base N (supF name qual params body scope cc cda) f A outer s H E) rest t ∧
        H a = some (exo a C none) ∧ ta (startF N vs [none]) H (fun ws H1 => ws.length ≤ 1000 ∧ H1 a = some (exo a C none) ∧ t { nx := fun _ H' => Q .non H', rt := Q } (startF N vs [none]) H1)) :
    FnOk P w K mg base CX (k + 1) f (fnX name qual params body scope [("__class__", cc)] dV kV doc pm an (.ref cda) ct) ps sp := by
  refine ⟨len, fun A outer s H args us vs Q E hr e0 hbd r hsp => ?_⟩
  have hl := len _ _ _ _ hsp
  have KB : ∀ b o, K.lookup b = some o → s.heap.get? b = some o ∧ H b = none := fun b o z => e0.bs b o (e0.mod.kin b o z)
  have KX : K.In s.heap := e0.mod.kin.keeps fun b o e => (e0.bs b o e).1
  have lim : s.heap.NoLimit := e0.mod.nolimit.keeps fun b o e => (e0.bs b o e).1
  obtain ⟨cl, cld, csl, hcell⟩ := U.cell
  have hpl : ps.length ≤ N.length := by
    have q := congrArg List.length S.pre
    rw [List.length_take, List.length_append] at q
    simp at q; omega
  refine ks_codeAny_call_defAt (fd := fnX name qual params body scope [("__class__", cc)] dV kV doc pm an (.ref cda) ct) (body := body) (binds := ps.zip us) hr.depth (KX _ _ lk) rfl lim (PySem.W.codeRec_of KX hcd) rfl hbd S.nocell (fun ⟨n, _⟩ hy => S.par n (List.of_mem_zip hy).1) (fun h₁ hns kp => ?_) S.co S.gen S.kind
  show _root_.PySem.wpAt (model P w) (A.deeper (envF (supF name qual params body scope cc cda) f s.heap.objs.size)) (.func body (envF (supF name qual params body scope cc cda) f s.heap.objs.size)) (execs body (envF (supF name qual params body scope cc cda) f s.heap.objs.size)) _ _ _
  obtain ⟨a, vs', ta, t, rfl, ha, ht, hx, hq⟩ := hbody A outer s H vs Q E (hr.deeper _) hsp
  have C0 : CellsAt [("__class__", cc)] ["__class__"] [none] s.heap H := by
    refine ⟨rfl, fun y c e => ?_, fun x y c e1 e2 => ?_, fun i y e => ?_⟩
    · have z := PySem.mem_of_lookup e
      simp at z
      obtain ⟨rfl, rfl⟩ := z
      exact ⟨(KB _ _ hcell).2, _, _, (KB _ _ hcell).1, rfl⟩
    · have z1 := PySem.mem_of_lookup e1
      have z2 := PySem.mem_of_lookup e2
      simp at z1 z2
      rw [z1.1, z2.1]
    · cases i with
      | zero =>
        have : y = "__class__" := by simpa using e.symm
        subst this
        exact ⟨cc, rfl, fun v z => by simp at z⟩
      | succ i => simp at e
  have I : Inv (ncx CX P w K mg base N (supF name qual params body scope cc cda) f A outer s H E) [] (startF N (.ref a :: vs') [none]) H { s with heap := h₁, toks := s.toks + (ps.zip us).length } :=
    inv_startN (F := supF name qual params body scope cc cda) S hr.hd e0 hl r C0 hns kp
  obtain ⟨f1, f2, f3, f4, f5⟩ := hfix s.heap.objs.size
  have hps1 : ∃ pr : List Str, ps = ("self" : Str) :: pr := by
    cases ps with
    | nil => cases hps
    | cons x pr => exact ⟨pr, by rw [Option.some.inj hps]⟩
  obtain ⟨pr, rfl⟩ := hps1
  have hN0 : N[0]? = some ("self" : Str) := by
    have q := S.pre
    cases N with
    | nil => simp at hpl
    | cons n r =>
      have q' := congrArg List.head? q
      simp at q'
      rw [q']; rfl
  have hfree := S.frk "__class__" (by simp)
  have hk := sup_stmt (s0 := s) (H0 := H) (D := { nx := fun _ H' => Q .non H', rt := Q }) lk T U hself har hN0 rfl (S.par _ (by simp)) hks hfree hm f1 f2 ha ht I hx hq f3 S.kind f4 f5 (p4 := p4)
  have fin : ∀ {s' : Shared} {σ' : L2.St} {H' : Hp} {v : V} {u : Value}, Inv (ncx CX P w K mg base N (supF name qual params body scope cc cda) f A outer s H E) [] σ' H' s' → RelV v u → Q v H' → CE outer P w H s Q u s' :=
    fun {s' σ' H' v u} J rv q => ⟨v, H', J.os, J.bare, J.base, J.hok, rv, q⟩
  have key := ks_wpAt_mono hk (Q' := fun fl s' => CR CX outer P w H s Q E (.ok (.ret (match fl with | .ret v => v | _ => .none))) s') (fun fl s' hs => ?_) (fun e s' h => h)
  · rw [← hb] at key
    exact key
  · cases fl with
    | ret u =>
      obtain ⟨v, σ', H', J, rv, q⟩ := hs
      exact fin J rv q
    | next =>
      obtain ⟨σ', H', J, q⟩ := hs
      exact fin (v := V.non) (u := Value.none) J rfl q
    | brk =>
      obtain ⟨_, _, _, q⟩ := hs
      exact False.elim q
    | cont =>
      obtain ⟨_, _, _, q⟩ := hs
      exact False.elim q
end
/-! ### isinstance of a caught error that has its own dict -/
section
open PySem.Calls
variable {prog : Program} {w : World} {A : Around} {E : Value → Shared → Prop} {s : Shared} {K : PySem.W.Frag} {x D : Addr} {ox : Obj} {od : Option Obj}
theorem findObj_dataO {C : Addr} {name : Str} {a g : Value} (hc : (clsIn K C).isSome = true) (ha : findIn K (.ref C) name = some (some a)) (hg : specialIn K a "__get__" = some (some g)) (ht : takesIn K a = some true) : findObj K C od name = some (.bind g a) := by
  obtain ⟨cd, hc⟩ := Option.isSome_iff_exists.mp hc
  unfold findObj
  rw [hc, Option.bind_some, ha, Option.bind_some]
  simp [hg, ht]
theorem kin_classO {Q : Option Value → Shared → Prop} (hga : findIn K (.ref D) "__getattribute__" = some (some (.builtin "BaseException.__getattribute__"))) (hgt : findIn K (.ref D) "__getattr__" = some none) (hsub : subIn K (.ref D) (.type "BaseException") = some true)
    (hdct : hasDictIn K D = true) (ha : findIn K (.ref D) "__class__" = some (some (.builtin "object.__class__")))
    (hn : specialIn K (.builtin "object.__class__") "__get__" = some (some (.builtin "getset_descriptor.__get__"))) (htk : takesIn K (.builtin "object.__class__") = some true) (hm : mroIn K D (.type "object") = some true)
    (X : K.In s.heap) (I : InstAt s.heap x ox D od) (h : Q (some (.ref D)) { s with toks := s.toks + 1 }) : wpAny (model prog w) A (getAttr? (.ref x) "__class__") Q E s := by
  have hf : findObj K D od "__class__" = some (.bind (.builtin "getset_descriptor.__get__") (.builtin "object.__class__")) := findObj_dataO (by obtain ⟨cd, hc, _⟩ := any_some hdct; rw [hc]; rfl) ha hn htk
  obtain ⟨hp, g, d, t, os⟩ := s
  have L0 := I.type (M := model prog w)
  have L1 := looks_findIn (M := model prog w) X hga
  have L2 := looks_findIn (M := model prog w) X hgt
  have L3 := looks_find (M := model prog w) X I hf
  have sub : Looks (model prog w) hp (isInstance (.ref x) (.type "BaseException")) true := L0.andThen (looks_subIn X hsub)
  have hx0 : (false && onTheHeap (Value.builtin "BaseException.__getattribute__")) = false := rfl
  have hx2 : (Value.builtin "BaseException.__getattribute__" == Value.builtin "object.__getattribute__") = false := by decide +kernel
  have hx1 : (onTheHeap (Value.ref D) && Value.builtin "BaseException.__getattribute__" == Value.builtin "object.__getattribute__") = false := by rw [hx2]; rfl
  unfold getAttr? getAttrBy? getAttrBy
  refine wpAny_bind (wpAny_mkText (wpAny_bind (wpAny_attempt (wpAny_holding (wpAny_bind (L0.at (wpAny_bind (L1.at ?_))))))))
  show wpAny _ _ (if (onTheHeap (Value.ref D) && Value.builtin "BaseException.__getattribute__" == Value.builtin "object.__getattribute__") = true then _ else _) _ _ _
  rw [hx1, if_neg Bool.false_ne_true]
  unfold getAttrByItsOwn hookBefore
  refine wpAny_bind ?_
  rw [if_pos (show onTheHeap (Value.ref D) = true from rfl)]
  refine L2.at ?_
  refine wpAny_bind (wpAny_attempt (wpAny_holding ?_))
  unfold callGetattribute
  rw [hx0, if_neg Bool.false_ne_true]
  unfold boundAndCalled
  rw [PySem.F.excAttr_ValueError.ga.bind (.ref x)]
  refine wpAny_bind (wpAny_pure ?_)
  show wpAny _ _ (call (.builtin "BaseException.__getattribute__") [.ref x, .str "__class__" t]) _ _ _
  refine wpAny_call (codeAny_call_builtin PySem.F.excAttr_ValueError.ga.plain PySem.F.entry_bexc_ga ?_)
  refine @check_slot (model prog w) _ _ ⟨hp, g, d, t + 1, os⟩ "BaseException.__getattribute__" "BaseException" "__getattribute__" (.ref x) [.str "__class__" t] [] _ (by decide +kernel) (by decide +kernel) sub (PySem.F.args_bexc_ga (.ref x) (.str "__class__" t)) ?_
  unfold Builtin.«object.__getattribute__»
  refine wpAny_bind (wpAny_of_eq (a := ((Value.ref x : Value), [Value.str "__class__" t])) (by first | rfl | (simp only [slotArgs]; rfl)) ?_)
  refine wpAny_bind (wpAny_pure (wpAny_bind (L0.at (wpAny_bind (L3.at ?_)))))
  show wpAny _ _ (holding [Value.builtin "object.__class__"] (call (.builtin "getset_descriptor.__get__") [.builtin "object.__class__", .ref x, .ref D]) >>= ret) _ _ _
  refine wpAny_bind (wpAny_holding (wpAny_call (class_get (s := ⟨hp, g, d, t + 1, os⟩) (ox := ox) (od := od) X I hm ?_)))
  refine wpAny_pure ?_
  show wpAny _ _ (handedOut (.ref D)) _ _ _
  rw [handedOut_of (v := .ref D) rfl]
  first
    | exact wpAny_pure (wpAny_pure h)
    | exact wpAny_pure h
    | exact wpAny_pure (wpAny_bind (wpAny_pure (wpAny_pure h)))
theorem kitx_excO (hga : findIn K (.ref D) "__getattribute__" = some (some (.builtin "BaseException.__getattribute__"))) (hgt : findIn K (.ref D) "__getattr__" = some none) (hsub : subIn K (.ref D) (.type "BaseException") = some true) (hdct : hasDictIn K D = true) (ha : findIn K (.ref D) "__class__" = some (some (.builtin "object.__class__")))
    (hn : specialIn K (.builtin "object.__class__") "__get__" = some (some (.builtin "getset_descriptor.__get__"))) (htk : takesIn K (.builtin "object.__class__") = some true) (hm : mroIn K D (.type "object") = some true) :
    KitX K (.ref x) (.ref D) (fun h => InstAt h x ox D od) where
  ty := fun _ _ _ I => I.type
  it := fun _ _ X _ => by
    obtain ⟨cdD, hcD, _⟩ := any_some hdct
    unfold clsIn at hcD
    split at hcD
    · rename_i c' d' cd' sl' ho
      intro A' Q' E' s' k q
      unfold isType loadHead
      exact wpAny_bind (wpAny_loadPart (k _ _ (X _ _ ho)) (wpAny_pure q))
    · cases hcD
  ne := fun h tp dd its n sl X htp => by
    obtain ⟨cdD, hcD, _⟩ := any_some hdct
    refine Bool.eq_false_iff.mpr fun q => ?_
    have e : D = tp := Value.ref.inj (beq_iff_eq.mp q)
    subst e
    unfold clsIn at hcD
    split at hcD
    · rename_i c' d' cd' sl' ho
      have z := (X _ _ ho).symm.trans htp
      cases z
    · cases hcD
  ca := fun X I k => kin_classO hga hgt hsub hdct ha hn htk hm X I k
end
/-- isinstance(e, c), e the exception that the suite holds, its dict at d -/
def rIsD (K : PySem.W.Frag) (a : Addr) (cls : Value) (d : Option Addr) : List V → Hp → VK → Prop := fun xs H Q => ∃ (D dd : Addr) (fs : List (Str × V)) (c : V) (cv : Value) (b : Bool), cls = .ref D ∧ d = some dd ∧ L2.ExcC K D ∧ H dd = some (.xd fs) ∧ xs = [.ref a, c] ∧ (∀ u, RelV c u → u = cv) ∧ PySem.W.kitOne K (.ref D) cv = some b ∧ Q (.bl b) H
theorem call_isD {X : Cx} {a : Addr} {oe : Obj} {cls : Value} {d : Option Addr} {pn : List (Addr × Obj)} (hz : Zc cls d oe) (hf : ∃ vs, oe.data = .fields vs) (K : PySem.W.Frag) (e : X.K = K := by rfl) : CallR (X.suite a ((a, oe) :: pn)) (.builtin "isinstance") (rIsD K a cls d) := by
  subst e
  intro pins s σ H xs us Q I r h
  obtain ⟨D, dd, fs, c, cv, b, rfl, rfl, C, hdd, rfl, hcv, e, q⟩ := h
  cases r with
  | cons rx rr =>
    cases rr with
    | cons rt rr =>
      cases rr
      cases rx
      have ec := hcv _ rt
      subst ec
      obtain ⟨hget, _⟩ := I.pin (a, oe) (List.mem_append.mpr (.inl List.mem_cons_self))
      obtain ⟨vs, hv⟩ := hf
      have hx : ObjOk X.prog X.w H s.heap dd (.xd fs) := I.hok dd _ hdd
      obtain ⟨mA, hns, hr⟩ := hx
      obtain ⟨od, ho, hl⟩ := lookIn_ns hns
      have J : PySem.W.InstAt s.heap a oe D (some od) := by
        refine ⟨hget, hz.1, by unfold PySem.W.notCls; rw [hv] <;> rfl, by rw [hz.2]; exact ho⟩
      exact PySem.W.kia_one (kitx_excO C.hg C.hk C.hs C.hd C.ha C.hn C.ht C.hm) I.kIn J e (fun z => nomatch z) fun tk => ⟨.bl b, H, I.kept (t' := tk) fun _ _ z => z, rfl, q⟩
/-! ### several clauses «except C as n» -/
abbrev ACl := Value × Nat × (Addr → Value → Option Addr → TS)
def wManyAs (K : PySem.W.Frag) (Wout : WX) (D : Ends) : List ACl → WX
  | [] => Wout
  | (c, i, ts) :: r => fun cls d σ H => ∃ b, PySem.W.exmOne K cls c = some b ∧ (b = true → ∀ a, H a = none → ts a cls d { nx := fun σ' H' => D.nx (σ'.set i none) H', rt := D.rt, bk := fun σ' H' => D.bk (σ'.set i none) H', ct := fun σ' H' => D.ct (σ'.set i none) H' } (σ.set i (some (.ref a))) H) ∧ (b = false → wManyAs K Wout D r cls d σ H)
inductive HdsAs (X : Cx) : List ExceptHandler → List ACl → Prop
  | nil : HdsAs X [] []
  | cons {x n : Str} {i : Nat} {c : Value} {ts : Addr → Value → Option Addr → TS} {b₀ : Stmt} {suite : List Stmt} {np pos' : Pos} {hds : List ExceptHandler} {l : List ACl} (hc : Names X x c) (hi : X.N[i]? = some n) (hln : X.env.kindOf n = some .local)
      (hsu : ∀ (a : Addr) (oe : Obj) (cls : Value) (d : Option Addr) (pn : List (Addr × Obj)), Zc cls d oe → (∃ vs, oe.data = .fields vs) → PSs (X.suite a ((a, oe) :: pn)) (b₀ :: suite) (ts a cls d)) (r : HdsAs X hds l) :
      HdsAs X (.ExceptHandler (some (.Name x np)) (some n) (b₀ :: suite) pos' :: hds) ((c, i, ts) :: l)
section
variable {X : Cx} {body : List Stmt} {h₀ : ExceptHandler} {hds : List ExceptHandler} {l : List ACl} {pos : Pos} {tb : WX → TS} {Wout : WX}
theorem ps_try_manyAs (hs : X.stack = X.env :: X.outer) (hf : X.env.frame = some X.env.locals) (hN : X.N.Nodup) (tk : Takes X Wout)
    (hb : ∀ (W : WX) (pn : List (Addr × Obj)) (xe : Value → Shared → Prop), Takes (X.tr pn xe) W → PassesOwn (model X.prog X.w) X.A X.env xe → PSs (X.tr pn xe) body (tb W))
    (hh : HdsAs X (h₀ :: hds) l) : PS X (.Try body (h₀ :: hds) [] [] pos) (fun D σ H => tb (wManyAs X.K Wout D l) D σ H) := by
  refine ⟨fun pins s σ H D I h => ?_⟩
  have ok := I.ok
  have hfr : X.A.frames = some (X.env :: X.outer) := by rw [ok.frames, hs]
  refine wpAny_Try_except ?_
  refine wpAny_mono ((hb (wManyAs X.K Wout D l) (X.pn ++ pins) (fun e s₁ => wpAny (model X.prog X.w) X.A (noteFrame e X.env) (fun _ s₂ => wpAny (model X.prog X.w) X.A (setFlight e none) (fun _ s₃ =>
    wpAny (model X.prog X.w) X.A (handleBy e X.env (h₀ :: hds)) (SP X pins D) X.xe s₃) X.xe s₂) X.xe s₁) (fun u s' xx => ?_) PassesOwn.looking).run [] s σ H D (I.toTry _) h) (fun f s1 hsp => ?_) (fun e s1 he => he)
  · -- the catch
    obtain ⟨a, B, sI, pins', σ', H', cls, d, rfl, J', nb, up, sky, na, os, ag, w⟩ := xx
    have J : Inv X pins σ' H' sI := J'.ofTry ok
    have sky' : Sky B (X.env :: X.outer) a (Zc cls d) X.env.locals s'.heap := by rw [← hs]; exact sky
    show wpAny (model X.prog X.w) X.A (noteFrame (.ref a) X.env) _ _ _
    refine Sky.land Zc.steady hfr hf sky' fun h3 fl3 up3 => ?_
    have J3 : Inv X pins σ' H' { s' with heap := h3 } := J.landed nb fl3.1 (up.trans up3) os ag
    obtain ⟨oe3, vs3, he3, hz3, hd3⟩ := fl3.there
    have notFr : ∀ {h : Heap} {o : Obj} {vs : Array Value}, h.FunFrames B (X.env :: X.outer) → h.get? a = some o → o.data = .fields vs → a ∉ frs (X.env :: X.outer) := fun {h o vs} ff e dd hm => by
      obtain ⟨_, o', e', hnf⟩ := ff.mem hm
      rw [e] at e'; cases e'
      exact hnf _ dd
    have nfr := notFr fl3.2.2.1 he3 hd3
    have nL : a ≠ X.env.locals := fun z => nfr (List.mem_filterMap.mpr ⟨X.env, List.mem_cons_self, by rw [hf, z]⟩)
    have nF : a ∉ X.fs := fun hm => by
      obtain ⟨e, he, q⟩ := List.mem_filterMap.mp hm
      exact nfr (List.mem_filterMap.mpr ⟨e, List.mem_cons_of_mem _ he, q⟩)
    have S3 := J3.suite he3 hd3 na nL nF
    have go : ∀ {hds' : List ExceptHandler} {l' : List ACl}, HdsAs X hds' l' → wManyAs X.K Wout D l' cls d σ' H' →
        wpAny (model X.prog X.w) X.A (handleBy (.ref a) X.env hds') (SP X pins D) X.xe { s' with heap := h3 } := by
      intro hds' l' hk
      induction hk with
      | nil =>
        intro w
        refine wpAny_handleBy_nil ?_
        obtain ⟨k1, k2, k3, oe, vs, T, oT, ts', he, hz, hd, h1, hr⟩ := id fl3
        unfold PySem.passOn
        refine wpAny_bind (wpAny_field he hd h1 ?_)
        rw [if_neg (show ¬ ((Value.ref T == Value.none) = true) from by simp)]
        have fin : wpAny (model X.prog X.w) X.A (setFlight (.ref a) X.env.frame) (fun _ s4 => wpAny (model X.prog X.w) X.A (throw (.ref a) : Sem Flow) (SP X pins D) X.xe s4) X.xe { s' with heap := h3 } := by
          rw [hf]
          refine HandSPX.setFlight_upZ fl3 fun h4 hh4 up4 => wpAny_throw (tk _ _ ?_)
          exact ⟨a, B, sI, pins, σ', H', cls, d, rfl, J, nb, (up.trans up3).trans up4, .inr (.inr (by rw [hs]; exact hh4)), na, os, ag, w⟩
        first
          | exact wpAny_bind (wpAny_pure (wpAny_bind fin))
          | exact wpAny_bind fin
      | @cons x n i c ts b₀ suite np pos' hds2 l2 hc hi hln hsu r ih =>
        intro w
        obtain ⟨b, hb1, hyes, hno⟩ := w
        have hloc : Loc X.env.scope n := .inl hln
        refine wpAny_handleBy_cons (codeAny_handlers_test ?_) (by intro q; cases q)
        have LT : PySem.W.Looks (model X.prog X.w) h3 (typeOf (.ref a)) cls := fun A Q E s k q => wpAny_typeOf_ref (k _ _ he3) (by rw [hz3.1]; exact q)
        have LM := PySem.W.exm_one (M := model X.prog X.w) (J3.kIn) LT hb1
        have test : ∀ {Q : Value → Shared → Prop} {E : Value → Shared → Prop}, Q c { s' with heap := h3 } → wpAny (model X.prog X.w) (X.A.mark (some (.ref a))) (eval (.Name x np) X.env) Q E { s' with heap := h3 } := fun {Q E} q => by
          obtain ⟨hg, hdbg, hm | ⟨hm, hv, hnn⟩⟩ := hc
          · exact ld_glob (X := X.suite a ((a, oe3) :: (X.pn ++ pins))) S3 hg hm q hdbg
          · exact ld_blt (X := X.suite a ((a, oe3) :: (X.pn ++ pins))) S3 hg hm hv q hnn hdbg
        refine test (LM.here ?_)
        cases b with
        | true =>
          refine codeAny_handlers_suite_as ?_
          refine HandSPX.lands_againZ fl3 fun h4 fl4 up4 => ?_
          have J4 : Inv X pins σ' H' { s' with heap := h4 } := J.landed nb fl4.1 ((up.trans up3).trans up4) os ag
          obtain ⟨oe4, vs4, he4, hz4, hd4⟩ := fl4.there
          have S4 := J4.suite he4 hd4 na nL nF
          refine store_ok (X := X.suite a ((a, oe4) :: (X.pn ++ pins))) (v := .ref a) S4 hN hi hloc rfl (fun s5 S5 => ?_) (.inr hln)
          refine wpAny_mono ((hsu a oe4 cls d (X.pn ++ pins) hz4 ⟨_, hd4⟩).run [] s5 _ H' _ S5 (hyes rfl a na)) (fun f s6 hsp => ?_) (fun _ _ z => False.elim z)
          have end_ : ∀ {σ6 : L2.St} {H6 : Hp} {Q : Shared → Prop}, Inv (X.suite a ((a, oe4) :: (X.pn ++ pins))) [] σ6 H6 s6 → (∀ s7, Inv X pins (σ6.set i none) H6 s7 → Q s7) →
              wpAny (model X.prog X.w) X.A (do bindName X.env n .none; unbindBehindTheSuite X.env n pos') (fun _ s7 => Q s7) X.xe s6 := fun {σ6 H6 Q} S6 hq => gone_ok (S6.unsuite ok) hN hi hln hq
          cases f with
          | next =>
            obtain ⟨σ6, H6, S6, q6⟩ := hsp
            exact end_ S6 fun s7 J7 => ⟨_, _, J7, q6⟩
          | brk =>
            obtain ⟨σ6, H6, S6, q6⟩ := hsp
            exact end_ S6 fun s7 J7 => ⟨_, _, J7, q6⟩
          | cont =>
            obtain ⟨σ6, H6, S6, q6⟩ := hsp
            exact end_ S6 fun s7 J7 => ⟨_, _, J7, q6⟩
          | ret u =>
            obtain ⟨v6, σ6, H6, S6, r6, q6⟩ := hsp
            exact end_ S6 fun s7 J7 => ⟨_, _, _, J7, r6, q6⟩
        | false =>
          show wpAny _ X.A (handleBy (.ref a) X.env hds2) _ _ _
          exact ih (hno rfl)
    exact go hh w
  · cases f with
    | next =>
      obtain ⟨σ', H', J', q⟩ := hsp
      exact wpAny_execs_nil ⟨σ', H', J'.ofTry ok, q⟩
    | brk =>
      obtain ⟨σ', H', J', q⟩ := hsp
      exact ⟨σ', H', J'.ofTry ok, q⟩
    | cont =>
      obtain ⟨σ', H', J', q⟩ := hsp
      exact ⟨σ', H', J'.ofTry ok, q⟩
    | ret u =>
      obtain ⟨v, σ', H', J', r, q⟩ := hsp
      exact ⟨v, σ', H', J'.ofTry ok, r, q⟩
end
/-! ### a class ready to be raised -/
structure Exc (P : Program) (w : World) (K : PySem.W.Frag) (mg : Str → Option Value) (base : Heap) (x : Str) (C : Addr) (k : Nat) (sp : Sp) : Prop where
  g : mg x = some (.ref C)
  oex : OexC K C
  ini : ∃ (fI : Addr) (fd : FuncData) (ps : List Str), PySem.W.findIn K (.ref C) "__init__" = some (some (.ref fI)) ∧ PySem.W.typeIn K (.ref fI) = some (.type "function") ∧ FnOk P w K mg base CX0 k fI fd ps sp ∧ Binds K fd ps []
section
variable {X : Cx} {x : Str} {C : Addr} {k j : Nat} {sp : Sp} {e : Expr} {es : List Expr} {ta : TA} {p pos : Pos} {W : WX}
theorem pmk_exc (c : Exc X.prog X.w X.K X.mg X.base x C k sp) (hr : Room j X.A) (hk : k + 1 ≤ j) (hg : Gl X x) (ha : PA X (e :: es) ta)
    (hdb : (x == ("__debug__" : Str)) = false := by decide) (he : starEach (e :: es) X.env = (false, eval e X.env) :: starEach es X.env := by rfl) (hpl : (backTo pos (starEach es X.env)).any (·.1) = false := by rfl) :
    PMk X (.Call (.Name x p) (e :: es) [] pos) (tMkO C sp [] ta) := by
  obtain ⟨fI, fd, ps, iC, tI, F, b⟩ := c.ini
  exact pmk_oex c.oex iC tI F (hr.mono hk) b .nil pass0 hg c.g ha hdb he hpl
/-- raise C(..) -/
def tRaise (W : WX) (t : L2.St → Hp → XK → Prop) : TS := fun _ σ H => t σ H fun cls d H' => W cls d σ H'
theorem ps_raiseT {t : L2.St → Hp → XK → Prop} (hc : X.calm = true) (tk : Takes X W) (he : PMk X e t) : PS X (.Raise (some e) none pos) (tRaise W t) := ps_raise hc tk he
end
/-- what an own __init__ leaves: its dict with the fields fs of the arguments -/
def spIni (C : Addr) (n : Nat) (ok : List V → Prop) (fs : List V → List (Str × V)) : Sp := fun vs H Q _ => ∃ (a : Addr) (ws : List V), vs = .ref a :: ws ∧ ws.length = n ∧ ok ws ∧ H a = some (exo a C none) ∧
  ∀ d H', H d = none → (∀ b o, H b = some o → b ≠ a → H' b = some o) → H' a = some (exo a C (some d)) → H' d = some (exd d (fs ws)) → Q .non H'
theorem spIni_len {C : Addr} {n : Nat} {ok : List V → Prop} {fs : List V → List (Str × V)} {vs : List V} {H : Hp} {Q : VK} {E : XK} (h : spIni C n ok fs vs H Q E) : vs.length = n + 1 := by
  obtain ⟨a, ws, rfl, hn, _⟩ := h
  rw [List.length_cons, hn]
section
variable {C : Addr} {n : Nat} {ok : List V → Prop} {fs : List V → List (Str × V)} {vs : List V} {H : Hp} {Q : XK} {σ : L2.St} {ta : TA} {D : Ends} {W : WX}
theorem g_raise (h : tMkO C (spIni C n ok fs) [] ta σ H fun cls d H' => W cls d σ H') : tRaise W (tMkO C (spIni C n ok fs) [] ta) D σ H := h
theorem g_mkO (h : ta σ H fun vs H1 => vs.length ≤ 1000 ∧ ∀ a, H1 a = none → spIni C n ok fs (.ref a :: (vs ++ [])) (upd H1 a (exo a C none)) (fun v H2 => v = .non ∧ ∃ (d : Addr) (fs : List (Str × V)), H2 a = some (exo a C (some d)) ∧ H2 d = some (exd d fs) ∧ H1 d = none ∧ Q (.ref C) (some d) (upd (del H2 a) d (.xd fs))) (fun _ _ _ => False)) :
    tMkO C (spIni C n ok fs) [] ta σ H Q := h
theorem g_ini (hn : vs.length = n) (hz : n ≤ 1000) (hk : ok vs) (q : ∀ d H', H d = none → Same H H' → H' d = some (.xd (fs vs)) → Q (.ref C) (some d) H') :
    vs.length ≤ 1000 ∧ ∀ a, H a = none → spIni C n ok fs (.ref a :: (vs ++ [])) (upd H a (exo a C none)) (fun v H2 => v = .non ∧ ∃ (d : Addr) (fs : List (Str × V)), H2 a = some (exo a C (some d)) ∧ H2 d = some (exd d fs) ∧ H d = none ∧ Q (.ref C) (some d) (upd (del H2 a) d (.xd fs))) (fun _ _ _ => False) := by
  refine ⟨by omega, fun a na => ⟨a, vs ++ [], rfl, by rw [List.append_nil]; exact hn, by rw [List.append_nil]; exact hk, upd_same, fun d H' nd kp ea ed => ⟨rfl, d, _, ea, ed, ?_, ?_⟩⟩⟩
  · by_cases hd : d = a
    · rw [hd]; exact na
    · rw [upd_ne hd] at nd; exact nd
  · rw [List.append_nil] at ed ⊢
    have hda : d ≠ a := fun z => by rw [z, upd_same] at nd; cases nd
    have hnd : H d = none := by rw [upd_ne hda] at nd; exact nd
    refine q d _ hnd (fun b o hb => ?_) upd_same
    have hba : b ≠ a := ne_of_none hb na
    have hbd : b ≠ d := ne_of_none hb hnd
    rw [upd_ne hbd, del_ne hba]
    exact kp b o (by rw [upd_ne hba]; exact hb) hba
end
/-! ### an own __init__ as it stands behind the top -/
structure FunS (K : PySem.W.Frag) (name qual : Str) (st : Stmt) (f cc cda : Addr) (fd : FuncData) : Prop where
  ex : ∃ (oc : Value) (od : Option Addr) (kV doc pm : Value) (an : Option Addr) (ct : Value) (osl : Array (Option Value)), fd = fnX name qual (defArgs st) (defBody st) (defScope st) [("__class__", cc)] .none kV doc pm an (.ref cda) ct ∧
    K.lookup f = some (⟨oc, od, .func fd, osl⟩ : Obj) ∧ codeIn K (.ref cda) qual = true
theorem FunS.binds {K : PySem.W.Frag} {name qual : Str} {st : Stmt} {f cc cda : Addr} {fd : FuncData} {ps : List Str} (F : FunS K name qual st f cc cda fd)
    (h : ∀ (kV doc pm : Value) (an : Option Addr) (cdv ct : Value) (us : List Value), us.length = ps.length → bindArgs (fnX name qual (defArgs st) (defBody st) (defScope st) [("__class__", cc)] .none kV doc pm an cdv ct) ⟨us, []⟩ = pure (ps.zip us)) : Binds K fd ps [] := by
  obtain ⟨oc, od, kV, doc, pm, an, ct, osl, rfl, lk, hcd⟩ := F.ex
  exact .all (h kV doc pm an _ ct)
section
variable {P : Program} {w : World} {K : PySem.W.Frag} {mg : Str → Option Value} {base : Heap} {N ps : List Str} {f cc cda C : Addr} {k : Nat} {name qual : Str} {st : Stmt} {fd : FuncData} {e : Expr} {es : List Expr} {rest : List Stmt} {p0 p1 p2 p3 p4 : Pos} {ar : Arg}
  {n : Nat} {ok : List V → Prop} {fs : List V → List (Str × V)}
theorem FunS.okE (F : FunS K name qual st f cc cda fd) (S : NScope N ps ["__class__"] (defScope st)) (T : OexC K C) (U : SupK P K C cc cda)
    (hself : ((defArgs st).posonlyargs ++ (defArgs st).args).head? = some ar) (har : ar.arg = "self") (hps : ps.head? = some ("self" : Str)) (hks : (defScope st).names.lookup ("super" : Str) = some .globalImplicit) (hm : mg "super" = none)
    (hb : defBody st = .Expr (.Call (.Attribute (.Call (.Name "super" p0) [] [] p1) "__init__" p2) (e :: es) [] p3) p4 :: rest)
    (hfix : ∀ L : Addr, starEach (e :: es) (envF (supF name qual (defArgs st) (defBody st) (defScope st) cc cda) f L) = (false, eval e (envF (supF name qual (defArgs st) (defBody st) (defScope st) cc cda) f L)) :: starEach es (envF (supF name qual (defArgs st) (defBody st) (defScope st) cc cda) f L) ∧
      (backTo p3 (starEach es (envF (supF name qual (defArgs st) (defBody st) (defScope st) cc cda) f L))).any (·.1) = false ∧
      eval (.Call (.Attribute (.Call (.Name "super" p0) [] [] p1) "__init__" p2) (e :: es) [] p3) (envF (supF name qual (defArgs st) (defBody st) (defScope st) cc cda) f L) = (do
        let ov ← attributeBase (.Call (.Name "super" p0) [] [] p1) "__init__" (envF (supF name qual (defArgs st) (defBody st) (defScope st) cc cda) f L) (eval (.Call (.Name "super" p0) [] [] p1) (envF (supF name qual (defArgs st) (defBody st) (defScope st) cc cda) f L))
        standAt p2.atName
        let (fv, first) ← holding [ov] (getMethod ov "__init__" (pure false))
        callWith p3 fv first (backTo p3 (starEach (e :: es) (envF (supF name qual (defArgs st) (defBody st) (defScope st) cc cda) f L))) []) ∧
      interactive (envF (supF name qual (defArgs st) (defBody st) (defScope st) cc cda) f L) = false ∧
      swapsWith (.Call (.Attribute (.Call (.Name "super" p0) [] [] p1) "__init__" p2) (e :: es) [] p3) none p4.line (envF (supF name qual (defArgs st) (defBody st) (defScope st) cc cda) f L) = pure false)
    (hl : ps.length = n + 1)
    (hbody : ∀ (A : Around) (outer : List Env) (s : Shared) (H : Hp) (a : Addr) (ws : List V) (Q : VK) (E : XK), Room k (A.deeper (envF (supF name qual (defArgs st) (defBody st) (defScope st) cc cda) f s.heap.objs.size)) → ws.length = n → ok ws → H a = some (exo a C none) →
      ∃ ta t, PA (ncx CX0 P w K mg base N (supF name qual (defArgs st) (defBody st) (defScope st) cc cda) f A outer s H E) (e :: es) ta ∧ PSs (ncx CX0 P w K mg base N (supF name qual (defArgs st) (defBody st) (defScope st) cc cda) f A outer s H E) rest t ∧
        ((∀ d H', H d = none → (∀ b o, H b = some o → b ≠ a → H' b = some o) → H' a = some (exo a C (some d)) → H' d = some (exd d (fs ws)) → Q .non H') →
          ta (startF N (.ref a :: ws) [none]) H (fun us H1 => us.length ≤ 1000 ∧ H1 a = some (exo a C none) ∧ t { nx := fun _ H' => Q .non H', rt := Q } (startF N (.ref a :: ws) [none]) H1))) :
    FnOk P w K mg base CX0 (k + 1) f fd ps (spIni C n ok fs) := by
  obtain ⟨oc, od, kV, doc, pm, an, ct, osl, rfl, lk, hcd⟩ := F.ex
  refine fn_sup lk hcd S T U hself har hps hks hm hb hfix (fun vs H Q E h => by rw [spIni_len h, hl]) fun A outer s H vs Q E hr hsp => ?_
  obtain ⟨a, ws, rfl, hn, hk, ha, q⟩ := hsp
  obtain ⟨ta, t, h1, h2, h3⟩ := hbody A outer s H a ws Q E hr hn hk ha
  exact ⟨a, ws, ta, t, rfl, h1, h2, ha, h3 q⟩
end
/-! ### f-strings: only that the text is short -/
section
variable {σ : L2.St} {H : Hp} {Q : VK} {te : TE} {ts : List TE} {acc : Str} {k : Nat}
theorem g_fmt (h : te σ H fun x H1 => (∃ y : Str, x = .str y ∧ y.length ≤ sizeLine ∧ Q (.str y) H1) ∨ ∃ i : Int, x = .int i ∧ i.natAbs.log2 < 1920 ∧ Q (.str (toString i)) H1) : tFmt te σ H Q := h
theorem g_fmtS {y : Str} {R : Prop} {Q : Str → Prop} (hz : y.length ≤ 2000) (h : Q y) : (∃ y' : Str, V.str y = .str y' ∧ y'.length ≤ sizeLine ∧ Q y') ∨ R := .inl ⟨y, rfl, WL.sz_le (by omega), h⟩
theorem g_fmtI {i : Int} {R : Prop} {Q : Int → Prop} (hz : i.natAbs.log2 < 1920) (h : Q i) : R ∨ ∃ j : Int, V.int i = .int j ∧ j.natAbs.log2 < 1920 ∧ Q j := .inr ⟨i, rfl, hz, h⟩
def tJoin (ts : List TE) : TE := fun σ H Q => tJs ts Str.empty σ H fun out H1 => Q (.str out) H1
theorem kpe_joined {X : Cx} {v1 v2 : Expr} {rest : List Expr} {ts : List TE} {pos : Pos} (h : PJ X (v1 :: v2 :: rest) ts) : PE X (.JoinedStr (v1 :: v2 :: rest) pos) (tJoin ts) := pe_joined h
theorem g_join0 {ts : List TE} (h : ∀ acc : Str, acc.length ≤ 0 → tJs ts acc σ H fun out H1 => Q (.str out) H1) : tJoin ts σ H Q := h Str.empty (by decide)
theorem g_js {t : TE} {Q : Str → Hp → Prop} (h : t σ H fun x H1 => ∃ y : Str, x = .str y ∧ (acc ++ y).length ≤ sizeLine ∧ tJs ts (acc ++ y) σ H1 Q) : tJs (t :: ts) acc σ H Q := h
theorem g_jsS {y : Str} {Q : Str → Hp → Prop} (hz : y.length ≤ 2000) (ha : acc.length ≤ k) (hk : k ≤ 90000) (h : ∀ acc' : Str, acc'.length ≤ k + 2000 → tJs ts acc' σ H Q) :
    ∃ y' : Str, V.str y = .str y' ∧ (acc ++ y').length ≤ sizeLine ∧ tJs ts (acc ++ y') σ H Q := by
  have hl : (acc ++ y).length ≤ k + 2000 := by rw [WL.len_cat]; omega
  exact ⟨y, rfl, WL.sz_le (by omega), h _ hl⟩
theorem g_jsN {Q : Str → Hp → Prop} (h : Q acc H) : tJs [] acc σ H Q := h
theorem num_len {i : Int} (h : i.natAbs.log2 < 1920) : (Str.ofString (toString i)).length ≤ 2000 := Nat.le_trans (PyProof.Rows.int_text_len_1921 h) (by decide)
end
/-! ### a def that may raise, called -/
structure CalX (P : Program) (w : World) (K : PySem.W.Frag) (mg : Str → Option Value) (base : Heap) (k : Nat) (x : Str) (sp : Sp) : Prop where
  ex : ∃ (f : Addr) (fd : FuncData) (ps : List Str), FnOk P w K mg base (L2.CX P w) k f fd ps sp ∧ mg x = some (.ref f) ∧ PySem.W.keepIn K (.ref f) = true ∧ Binds K fd ps []
section
variable {X : Cx} {x : Str} {k j : Nat} {sp : Sp} {e : Expr} {es : List Expr} {ta : TA} {p pos : Pos} {W : WX}
theorem pe_cT (c : CalX X.prog X.w X.K X.mg X.base k x sp) (hr : Room j X.A) (hk : k ≤ j) (hg : Gl X x) (tk : Takes X W) (ha : PA X (e :: es) ta)
    (hdb : (x == ("__debug__" : Str)) = false := by decide) (he : starEach (e :: es) X.env = (false, eval e X.env) :: starEach es X.env := by rfl) (hpl : (backTo pos (starEach es X.env)).any (·.1) = false := by rfl) :
    PE X (.Call (.Name x p) (e :: es) [] pos) (tCallS sp (WE W) ta) := by
  obtain ⟨f, fd, ps, F, hm, kp, b⟩ := c.ex
  exact pe_callS F (hr.mono hk) hg hm kp b (fun σ => passAt tk σ) ha hdb he hpl
end
section
variable {X : Cx} {K : PySem.W.Frag} {a : Addr} {oe : Obj} {cls : Value} {d : Option Addr} {pn : List (Addr × Obj)} {e : Expr} {te : TE} {pos : Pos} {n : Str} {σ : L2.St} {H : Hp} {Q : VK} {sp : Sp} {E : L2.St → XK} {ta : TA}
/-- err.f of a caught error: its class told by the reading -/
def tXg (K : PySem.W.Frag) (a : Addr) (cls : Value) (d : Option Addr) (f : Str) (te : TE) : TE := fun σ H Q => te σ H fun x H1 => x = .ref a ∧ ∃ (C dd : Addr) (fs : List (Str × V)) (v : V), cls = .ref C ∧ XfC K C ∧ PySem.W.findIn K (.ref C) f = some none ∧ d = some dd ∧ H1 dd = some (.xd fs) ∧ fs.lookup f = some v ∧ Q v H1
theorem pe_xg (hz : Zc cls d oe) (hf : ∃ vs, oe.data = .fields vs) (he : PE (X.suite a ((a, oe) :: pn)) e te) (hK : X.K = K := by rfl) (hb : attributeBase e n X.env (eval e X.env) = eval e X.env := by rfl) :
    PE (X.suite a ((a, oe) :: pn)) (.Attribute e n pos) (tXg K a cls d n te) := by
  subst hK
  refine ⟨fun pins s σ H Q I h => ?_⟩
  refine attr_of hb (thn (he.run pins s σ H _ I h) fun u s1 hh => ?_)
  obtain ⟨x, H1, I1, rx, ex, C, dd, fs, v, ec, T, hno, ed, ea, l, q⟩ := hh
  subst ex
  obtain rfl : u = Value.ref a := rx
  subst ec
  subst ed
  obtain ⟨ha, _⟩ := I1.pin (a, oe) (List.mem_append_left _ List.mem_cons_self)
  obtain ⟨vs, hd⟩ := hf
  have hx : ObjOk X.prog X.w H1 s1.heap dd (.xd fs) := I1.hok dd _ ea
  obtain ⟨mA, hns, hr⟩ := hx
  obtain ⟨od, ho, hl⟩ := lookIn_ns hns
  obtain ⟨u, hu, ru⟩ := RelO.some_of (v := v) (o := mA n) (by rw [← l]; exact hr n)
  have J : PySem.W.InstAt s1.heap a oe C (some od) := ⟨ha, hz.1, by unfold PySem.W.notCls; rw [hd] <;> rfl, by rw [hz.2]; exact ho⟩
  exact HandSPX.exc_get I1.kIn J T.ga T.gg T.exC (PySem.W.findObj_own T.hdC hno rfl (by rw [hl, hu])) (handed_of ru) ⟨v, H1, I1.tok _, ru, q⟩
theorem g_callS (h : ta σ H fun vs H1 => sp vs H1 Q (E σ)) : tCallS sp E ta σ H Q := h
theorem g_xg {C dd : Addr} {fs : List (Str × V)} {v : V} {R : V → Prop} (hx : XfC K C) (hn : PySem.W.findIn K (.ref C) n = some none) (hd : H dd = some (.xd fs)) (hl : fs.lookup n = some v) (h : R v) :
    V.ref a = .ref a ∧ ∃ (C' dd' : Addr) (fs : List (Str × V)) (v : V), Value.ref C = .ref C' ∧ XfC K C' ∧ PySem.W.findIn K (.ref C') n = some none ∧ some dd = some dd' ∧ H dd' = some (.xd fs) ∧ fs.lookup n = some v ∧ R v := ⟨rfl, C, dd, fs, v, rfl, hx, hn, rfl, hd, hl, h⟩
theorem g_isD {D dd : Addr} {fs : List (Str × V)} {c : V} {cv : Value} {b : Bool} (hC : L2.ExcC K D) (hd : H dd = some (.xd fs)) (hcv : ∀ u, RelV c u → u = cv) (e : PySem.W.kitOne K (.ref D) cv = some b) (q : Q (.bl b) H) : rIsD K a (.ref D) (some dd) [.ref a, c] H Q :=
  ⟨D, dd, fs, c, cv, b, rfl, rfl, hC, hd, rfl, hcv, e, q⟩
theorem rel_ref {C : Addr} : ∀ u, RelV (.ref C) u → u = Value.ref C := fun _ h => h
theorem rel_ty {T : String} : ∀ u, RelV (.ty T) u → u = Value.type T := fun _ h => h
end
section
variable {K : PySem.W.Frag} {A C : Addr} {T : String} {v : Bool}
theorem kit_refT (h1 : PySem.W.isClsIn K C = true) (h2 : PySem.W.typeIn K (.ref C) = some (.type "type")) (h : PySem.W.subIn K (.ref A) (.ref C) = some true) : PySem.W.kitOne K (.ref A) (.ref C) = some true := by
  unfold PySem.W.kitOne
  by_cases e : (Value.ref A == Value.ref C) = true
  · rw [if_pos e]
  · rw [if_neg e]
    unfold PySem.W.kitCls
    have h1' : (PySem.W.clsIn K C).isSome = true := h1
    simp only [h1', h2, beq_self_eq_true, Bool.and_self, if_true]
    exact h
theorem kit_refF (h1 : PySem.W.isClsIn K C = true) (h2 : PySem.W.typeIn K (.ref C) = some (.type "type")) (ne : (Value.ref A == Value.ref C) = false) (h : PySem.W.subIn K (.ref A) (.ref C) = some false) : PySem.W.kitOne K (.ref A) (.ref C) = some false := by
  unfold PySem.W.kitOne
  rw [ne, if_neg Bool.false_ne_true]
  unfold PySem.W.kitCls
  have h1' : (PySem.W.clsIn K C).isSome = true := h1
  simp only [h1', h2, beq_self_eq_true, Bool.and_self, if_true]
  exact h
theorem kit_ty (h1 : PySem.W.kitMeta T = true) (h : PySem.W.subIn K (.ref A) (.type T) = some v) : PySem.W.kitOne K (.ref A) (.type T) = some v := by
  unfold PySem.W.kitOne
  rw [show (Value.ref A == Value.type T) = false from rfl, if_neg Bool.false_ne_true]
  unfold PySem.W.kitCls
  simp only [h1, if_true]
  exact h
end
section
variable {X : Cx} {body : List Stmt} {h₀ : ExceptHandler} {hds : List ExceptHandler} {l : List ACl} {pos : Pos} {tb : WX → TS} {Wout : WX} {K : PySem.W.Frag} {D : Ends} {σ : L2.St} {H : Hp} {f : Str} {to te : TE}
def tTry (K : PySem.W.Frag) (Wout : WX) (l : List ACl) (tb : WX → TS) : TS := fun D σ H => tb (wManyAs K Wout D l) D σ H
theorem kps_try (K : PySem.W.Frag) (hs : X.stack = X.env :: X.outer) (hf : X.env.frame = some X.env.locals) (hN : X.N.Nodup) (tk : Takes X Wout)
    (hb : ∀ (W : WX) (pn : List (Addr × Obj)) (xe : Value → Shared → Prop), Takes (X.tr pn xe) W → PassesOwn (model X.prog X.w) X.A X.env xe → PSs (X.tr pn xe) body (tb W))
    (hh : HdsAs X (h₀ :: hds) l) (e : X.K = K := by rfl) : PS X (.Try body (h₀ :: hds) [] [] pos) (tTry K Wout l tb) := by subst e; exact ps_try_manyAs hs hf hN tk hb hh
theorem g_try (h : tb (wManyAs K Wout D l) D σ H) : tTry K Wout l tb D σ H := h
theorem g_ost (h : te σ H fun y H1 => to σ H1 fun x H2 => ∃ a C : Addr, x = .ref a ∧ OexC K C ∧ PySem.W.findIn K (.ref C) f = some none ∧
  ((H2 a = some (exo a C none) ∧ ∀ dx, H2 dx = none → dx ≠ a → D.nx σ (upd (upd H2 dx (exd dx [(f, y)])) a (exo a C (some dx)))) ∨
    ∃ (dx : Addr) (fs : List (Str × V)), H2 a = some (exo a C (some dx)) ∧ H2 dx = some (exd dx fs) ∧ fs.length ≤ 900 ∧ D.nx σ (upd H2 dx (exd dx ((f, y) :: fs))))) : tOst K f to te D σ H := h
end
section
variable {K : PySem.W.Frag} {a : Addr} {cls : Value} {d : Option Addr} {te : TE} {n : Str} {σ : L2.St} {H : Hp} {Q : VK}
theorem g_xgo (h : te σ H fun x H1 => x = .ref a ∧ ∃ (C dd : Addr) (fs : List (Str × V)) (v : V), cls = .ref C ∧ XfC K C ∧ PySem.W.findIn K (.ref C) n = some none ∧ d = some dd ∧ H1 dd = some (.xd fs) ∧ fs.lookup n = some v ∧ Q v H1) : tXg K a cls d n te σ H Q := h
end
theorem fn_false {P : Program} {w : World} {K : PySem.W.Frag} {mg : Str → Option Value} {base : Heap} {CX : CXT} {k : Nat} {f : Addr} {fd : FuncData} {ps : List Str} {sp : Sp} (h : ∀ vs H Q E, ¬ sp vs H Q E) : FnOk P w K mg base CX k f fd ps sp :=
  ⟨fun vs H Q E q => absurd q (h vs H Q E), fun A outer s H args us vs Q E _ _ _ _ q => absurd q (h vs H Q E)⟩
end WExc
set_option Elab.async false
set_option linter.all false
set_option maxRecDepth 100000
set_option maxHeartbeats 4000000
namespace WOwn
open PySem PySem.Spec PyProof.Rows L2
open PySem.W hiding CmpBack
theorem cmpBack {X : Cx} {pins : List (Addr × Obj)} {σ : L2.St} {Q : VK} {u : Value} {s' : Shared} (h : EP X pins σ Q u s') : PySem.W.CmpBack (EP X pins σ Q) u s' := by
  obtain ⟨v, H', I, r, q⟩ := id h
  unfold PySem.W.CmpBack
  cases u with
  | notImplemented => cases v <;> first | exact False.elim r | (obtain ⟨_, z⟩ := r; cases z) | cases r
  | _ => exact h
/-! ### what the class says of an own operator, and the operator's def -/
structure OpK (K : PySem.W.Frag) (C f : Addr) (nm : Str) : Prop where
  hs : findIn K (.ref C) nm = some (some (.ref f))
  hf : isFn K (.ref f) = true
  hc : selfFirst K C = true
structure OpM (P : Program) (w : World) (K : PySem.W.Frag) (mg : Str → Option Value) (base : Heap) (CX : CXT) (k : Nat) (C : Addr) (nm : Str) (sp : Sp) : Prop where
  ex : ∃ (f : Addr) (fd : FuncData) (ps : List Str), OpK K C f nm ∧ FnOk P w K mg base CX k f fd ps sp ∧ Binds K fd ps []
def Ins (C : Addr) (H : Hp) (a : Addr) : Prop := ∃ dx fs, H a = some (.ins C dx fs)
section
variable {X : Cx} {CX : CXT} {C : Addr} {k j : Nat} {sp : Sp} {E : XK}
/-- a op b, both of the class at C -/
def rOwn (C : Addr) (sp : Sp) (E : XK) : R2 := fun x y H Q => ∃ a b, x = .ref a ∧ y = .ref b ∧ Ins C H a ∧ Ins C H b ∧ sp [.ref a, .ref b] H Q E
theorem op_own {op : Operator} (M : OpM X.prog X.w X.K X.mg X.base CX k C (PySem.dunder op.info.2) sp) (hr : Room j X.A) (hk : k ≤ j) (hx : Passes CX X E) : OpR X (binaryOp op) (rOwn C sp E) := by
  intro pins s σ H x y v u Q I rx ry hq
  obtain ⟨a, b, rfl, rfl, ⟨dx, fs, ha⟩, ⟨dy, gs, hb⟩, hsp⟩ := hq
  obtain ⟨f, fd, ps, O, F, bd⟩ := M.ex
  cases rx
  cases ry
  obtain ⟨mA, J, _⟩ := ins_get I.hok ha
  obtain ⟨mB, J', _⟩ := ins_get I.hok hb
  obtain ⟨od, J, _⟩ := J.look
  obtain ⟨od', J', _⟩ := J'.look
  obtain ⟨m, hF⟩ := I.fr
  refine binop_K hF I.ok.mod.kin J J'.type O.hc O.hs O.hf ?_
  exact wpAny_mono (run_fn F (hr.mono hk) bd .nil hx I (show Vals [V.ref a, V.ref b] [Value.ref a, Value.ref b] from .cons rfl (.cons rfl .nil)) hsp) (fun v s' h => cmpBack h) fun _ _ h => h
/-- a op n, n an int -/
def rOwnI (C : Addr) (sp : Sp) (E : XK) : R2 := fun x y H Q => ∃ a i, x = .ref a ∧ y = .int i ∧ Ins C H a ∧ sp [.ref a, .int i] H Q E
/-- .. what is asked of the class and of int -/
structure OpI (K : PySem.W.Frag) (C : Addr) (op : Operator) : Prop where
  hr : ∃ rc, findIn K (.ref C) (dunderR op.info.2) = some rc ∧ (rc = none ∨ ∃ g : Addr, rc = some (.ref g))
  h1 : ∃ fo, findIn K (.type "int") (PySem.dunder op.info.2) = some fo
  h2 : ∃ ro, findIn K (.type "int") (dunderR op.info.2) = some ro
  sub : subIn K (.type "int") (.ref C) = some false
theorem op_ownI {op : Operator} (M : OpM X.prog X.w X.K X.mg X.base CX k C (PySem.dunder op.info.2) sp) (OI : OpI X.K C op) (hr : Room j X.A) (hk : k ≤ j) (hx : Passes CX X E) : OpR X (binaryOp op) (rOwnI C sp E) := by
  intro pins s σ H x y v u Q I rx ry hq
  obtain ⟨a, i, rfl, rfl, ⟨dx, fs, ha⟩, hsp⟩ := hq
  obtain ⟨f, fd, ps, O, F, bd⟩ := M.ex
  cases rx
  obtain ⟨tk, rfl⟩ := ry
  obtain ⟨mA, J, _⟩ := ins_get I.hok ha
  obtain ⟨od, J, _⟩ := J.look
  obtain ⟨m, hF⟩ := I.fr
  obtain ⟨rc, hrc, hp⟩ := OI.hr
  obtain ⟨fo, h1⟩ := OI.h1
  obtain ⟨ro, h2⟩ := OI.h2
  refine ksp_binT (T := "int") hF I.ok.mod.kin J rfl O.hc O.hs O.hf hrc hp h1 h2 OI.sub ?_
  exact wpAny_mono (run_fn F (hr.mono hk) bd .nil hx I (show Vals [V.ref a, V.int i] [Value.ref a, Value.int i tk] from .cons rfl (.cons ⟨_, rfl⟩ .nil)) hsp) (fun v s' h => cmpBack h) fun _ _ h => h
/-- -a, ~a -/
def rOwnU (C : Addr) (sp : Sp) (E : XK) : V → Hp → VK → Prop := fun x H Q => ∃ a, x = .ref a ∧ Ins C H a ∧ sp [.ref a] H Q E
theorem un_negO (M : OpM X.prog X.w X.K X.mg X.base CX k C "__neg__" sp) (hr : Room j X.A) (hk : k ≤ j) (hx : Passes CX X E) : UnR X (unaryOp .USub) (rOwnU C sp E) := by
  intro pins s σ H x v Q I rx hq
  obtain ⟨a, rfl, ⟨dx, fs, ha⟩, hsp⟩ := hq
  obtain ⟨f, fd, ps, O, F, bd⟩ := M.ex
  cases rx
  obtain ⟨mA, J, _⟩ := ins_get I.hok ha
  obtain ⟨od, J, _⟩ := J.look
  obtain ⟨m, hF⟩ := I.fr
  exact ksp_neg hF I.ok.mod.kin J O.hs O.hf (run_fn F (hr.mono hk) bd .nil hx I (show Vals [V.ref a] [Value.ref a] from .cons rfl .nil) hsp)
theorem un_invO (M : OpM X.prog X.w X.K X.mg X.base CX k C "__invert__" sp) (hr : Room j X.A) (hk : k ≤ j) (hx : Passes CX X E) : UnR X (unaryOp .Invert) (rOwnU C sp E) := by
  intro pins s σ H x v Q I rx hq
  obtain ⟨a, rfl, ⟨dx, fs, ha⟩, hsp⟩ := hq
  obtain ⟨f, fd, ps, O, F, bd⟩ := M.ex
  cases rx
  obtain ⟨mA, J, _⟩ := ins_get I.hok ha
  obtain ⟨od, J, _⟩ := J.look
  obtain ⟨m, hF⟩ := I.fr
  exact ksp_inv hF I.ok.mod.kin J O.hs O.hf (run_fn F (hr.mono hk) bd .nil hx I (show Vals [V.ref a] [Value.ref a] from .cons rfl .nil) hsp)
/-- a def runs somewhere below the running body -/
theorem run_at {f : Addr} {fd : FuncData} {ps : List Str} {pins : List (Addr × Obj)} {σ : L2.St} {H : Hp} {s : Shared} {Q : VK} {us : List Value} {vs : List V} {A : Around} (F : FnOk X.prog X.w X.K X.mg X.base CX k f fd ps sp) (hr : Room k A) (e0 : Env0 X.prog X.w X.K X.mg X.base A X.stack s H)
    (hb : Binds X.K fd ps []) (hx : Passes CX X E) (I : L2.Inv X pins σ H s) (r : Vals vs us) (h : sp vs H Q E) : wpAny (model X.prog X.w) A (call (.ref f) us) (EP X pins σ Q) X.xe s := by
  have hl : us.length = ps.length := by rw [← r.length]; exact F.len _ _ _ _ h
  have b := hb s us I.kIn (by rw [List.append_nil]; exact hl)
  rw [List.append_nil] at b
  refine wpAny_call (codeAny_mono (F.run A X.stack s H ⟨us, []⟩ us vs Q E hr e0 b r h) fun r s' hq => ?_)
  cases r with
  | error e => exact hx pins σ H s e s' I hq
  | ok fl =>
    cases fl with
    | ret u => exact I.after hq
    | next => exact False.elim hq
    | brk => exact False.elim hq
    | cont => exact False.elim hq
end
section
variable {prog : Program} {w : World} {A : Around} {E : Value → Shared → Prop} {s : Shared}
theorem code_bool_new {v : Value} {Q₁ : Value → Shared → Prop} (hq : wpAny (model prog w) A.in1 (truthy v) (fun b s' => Q₁ (.bool b) s') E s) :
    codeAny (model prog w) A (.call (.builtin "bool.__new__") ⟨[.type "bool", v], []⟩) (wants Q₁ E) s := by
  refine codeAny_of_tree ?_
  show wpAny _ A.in1 (do checkBuiltinCall "bool.__new__" ⟨[.type "bool", v], []⟩; again (.builtin "bool.__new__" ⟨[.type "bool", v], []⟩)) _ _ s
  refine wpAny_bind (wpAny_of_eq (PySem.F.newCall_bool_1 v) (wpAny_pure ⟨plainId_quiet (by decide +kernel) _, codeAny_builtin PySem.F.entry_bool_new ?_⟩))
  rw [Around.under_plainId (by decide +kernel) _]
  have f1 := PySem.F.conv_sub_bool
  have hq' : wpAny (model prog w) A.in1 (truthy v) (fun b s' => wpAny (model prog w) A.in1 (pure (Fin.done (.ret (.bool b)))) (fun fin s' => match fin with | .done f => wants Q₁ E (.ok f) s' | .again c' => c'.quiet = true ∧ codeAny (model prog w) A c' (wants Q₁ E) s') (fun e s' => wants Q₁ E (.error e) s') s') (fun e s' => wants Q₁ E (.error e) s') s :=
    wpAny_mono hq (fun b s' h => wpAny_pure h) fun _ _ h => h
  obtain ⟨hp, g, d, tk, os⟩ := s
  repeat (any_goals (first | assumption | wp_step))
theorem call_boolAny {v : Value} {Q : Value → Shared → Prop} (h : wpAny (model prog w) A.in1.in1 (truthy v) (fun b s' => Q (.bool b) s') E s) : wpAny (model prog w) A (call (.type "bool") [v]) Q E s := by
  refine ks_callType_codesW (Q₁ := fun obj s₁ => s₁.TypeIs obj "bool" ∧ Q obj s₁) PySem.F.called_bool (fun {Q' E'} hq => wpAny_of_eq (PySem.F.typeCall_bool_1 v) hq) PySem.F.entry_object_init (code_bool_new (wpAny_mono h (fun b s' hb => ⟨rfl, hb⟩) fun _ _ x => x)) fun obj s₁ h₁ => ?_
  obtain ⟨hT, hQ⟩ := h₁
  refine ⟨hT, PySem.F.args_object_init_2 obj v, ?_⟩
  exact object_init_meets PySem.F.called_bool.init.lookup PySem.F.called_bool.made PySem.F.newNe_bool prog w A.in1 _ s₁ ⟨hT, rfl, hQ⟩
end
section
variable {X : Cx} {CX : CXT} {C : Addr} {k j : Nat} {sp : Sp} {E : XK}
/-- bool(a) by an own __bool__ that gives a bool -/
def rOwnB (C : Addr) (sp : Sp) (E : XK) : List V → Hp → VK → Prop := fun xs H Q => ∃ a, xs = [.ref a] ∧ Ins C H a ∧ sp [.ref a] H (fun v H' => ∃ b, v = .bl b ∧ Q (.bl b) H') E
theorem call_boolO (M : OpM X.prog X.w X.K X.mg X.base CX k C "__bool__" sp) (hr : Room j X.A) (hk : k + 2 ≤ j) (hx : Passes CX X E) : CallR X (.type "bool") (rOwnB C sp E) := by
  intro pins s σ H xs us Q I rx hq
  obtain ⟨a, rfl, ⟨dx, fs, ha⟩, hsp⟩ := hq
  obtain ⟨f, fd, ps, O, F, bd⟩ := M.ex
  cases rx with
  | cons r1 r2 =>
  cases r2
  cases r1
  obtain ⟨mA, J, _⟩ := ins_get I.hok ha
  obtain ⟨od, J, _⟩ := J.look
  obtain ⟨m, hF⟩ := I.fr
  have hr2 : Room (k + 2) X.A := hr.mono hk
  refine call_boolAny (truthy_K hF I.ok.mod.kin J O.hs O.hf ?_)
  refine wpAny_mono (run_at F hr2.in1.in1 I.env0.in1.in1 bd hx I (show Vals [V.ref a] [Value.ref a] from .cons rfl .nil) hsp) (fun v s' h => ?_) fun _ _ h => h
  obtain ⟨v', H', I', r', b, rfl, q⟩ := h
  cases r'
  exact ⟨.bl b, H', I', rfl, q⟩
end
/-! ### == with an own __eq__, from either side -/
section
variable {prog : Program} {w : World} {A : Around} {E : Value → Shared → Prop} {hp : Heap} {g : Array GenState} {d : Drawn} {t : Nat} {os : OsState} {x C dx : Addr} {R : Result → Shared → Prop}
abbrev io (C dx : Addr) : Obj := PySem.W.instObj C dx
abbrev FinO (prog : Program) (w : World) (A : Around) (R : Result → Shared → Prop) : Fin → Shared → Prop := fun fin s' => match fin with
  | .done f => R (.ok f) s'
  | .again c' => c'.quiet = true ∧ codeAny (model prog w) A c' R s'
open AutoSeq1 (wpAny_loadPart')
theorem int_decl (b : Int) (u : Tok) (hx : hp.get? x = some (io C dx)) (h : R (.ok (.ret .notImplemented)) ⟨hp, g, d, t, os⟩) :
    wpAny (model prog w) A.in1 (Builtin.«int.__eq__» ⟨[.int b u, .ref x], []⟩) (FinO prog w A R) (fun e s' => R (.error e) s') ⟨hp, g, d, t, os⟩ := by
  wp_walk using wpAny_loadPart' hx, wpAny_load hx
  exact h
theorem bool_decl (b : Bool) (hx : hp.get? x = some (io C dx)) (h : R (.ok (.ret .notImplemented)) ⟨hp, g, d, t, os⟩) :
    wpAny (model prog w) A.in1 (Builtin.«int.__eq__» ⟨[.bool b, .ref x], []⟩) (FinO prog w A R) (fun e s' => R (.error e) s') ⟨hp, g, d, t, os⟩ := by
  wp_walk using wpAny_loadPart' hx, wpAny_load hx
  exact h
theorem str_decl (b : Str) (u : Tok) (hx : hp.get? x = some (io C dx)) (h : R (.ok (.ret .notImplemented)) ⟨hp, g, d, t, os⟩) :
    wpAny (model prog w) A.in1 (Builtin.«str.__eq__» ⟨[.str b u, .ref x], []⟩) (FinO prog w A R) (fun e s' => R (.error e) s') ⟨hp, g, d, t, os⟩ := by
  wp_walk using wpAny_loadPart' hx, wpAny_load hx
  exact h
theorem list_decl {l : Addr} {items : Array Value} {n : Nat} {dd : Option Addr} {sl : Array (Option Value)} (hl : hp.get? l = some { cls := .type "list", dict := dd, data := .seq items n, slots := sl }) (hin : PySem.W.Looks (model prog w) hp (isInstance (.ref x) (.type "list")) false) (hx : hp.get? x = some (io C dx)) (h : R (.ok (.ret .notImplemented)) ⟨hp, g, d, t, os⟩) :
    wpAny (model prog w) A.in1 (Builtin.«list.__eq__» ⟨[.ref l, .ref x], []⟩) (FinO prog w A R) (fun e s' => R (.error e) s') ⟨hp, g, d, t, os⟩ := by
  wp_walk using wpAny_loadPart' hl, Looks.at hin
  exact h
theorem tuple_decl {l : Addr} {items : Array Value} {n : Nat} {dd : Option Addr} {sl : Array (Option Value)} (hl : hp.get? l = some { cls := .type "tuple", dict := dd, data := .seq items n, slots := sl }) (hin : PySem.W.Looks (model prog w) hp (isInstance (.ref x) (.type "tuple")) false) (hx : hp.get? x = some (io C dx)) (h : R (.ok (.ret .notImplemented)) ⟨hp, g, d, t, os⟩) :
    wpAny (model prog w) A.in1 (Builtin.«tuple.__eq__» ⟨[.ref l, .ref x], []⟩) (FinO prog w A R) (fun e s' => R (.error e) s') ⟨hp, g, d, t, os⟩ := by
  wp_walk using wpAny_loadPart' hl, Looks.at hin
  exact h
theorem dict_decl {l : Addr} {es : Array DictEntry} {n : Nat} {dd : Option Addr} {sl : Array (Option Value)} (hl : hp.get? l = some { cls := .type "dict", dict := dd, data := .dict es n, slots := sl }) (hin : PySem.W.Looks (model prog w) hp (isInstance (.ref x) (.type "dict")) false) (hx : hp.get? x = some (io C dx)) (h : R (.ok (.ret .notImplemented)) ⟨hp, g, d, t, os⟩) :
    wpAny (model prog w) A.in1 (Builtin.«dict.__eq__» ⟨[.ref l, .ref x], []⟩) (FinO prog w A R) (fun e s' => R (.error e) s') ⟨hp, g, d, t, os⟩ := by
  wp_walk using wpAny_loadPart' hl, Looks.at hin
  exact h
end
section
variable {prog : Program} {w : World} {A : Around} {E : Value → Shared → Prop} {s : Shared} {K : PySem.W.Frag} {x C f : Addr} {ox : Obj} {od : Option Obj} {T id : String} {b : Value}
theorem rc_refl {Q : Value → Shared → Prop} (hu : A.units < cLine) (X : K.In s.heap) (hb : s.TypeIs b T) (I : InstAt s.heap x ox C od) (slot : Slot T (cmpInfo CmpOp.Eq).2.1 id) (hone : oneThing? .Eq b (.ref x) = none) (hd : ∀ Q' : Value → Shared → Prop, Q' .notImplemented s → wpAny (model prog w) A (call (.builtin id) [b, .ref x]) Q' E s)
    (hsub : mroIn K C (.type T) = some false) (hs : findIn K (.ref C) (cmpInfo CmpOp.Eq).2.2 = some (some (.ref f))) (hf : isFn K (.ref f) = true)
    (h : wpAny (model prog w) A (call (.ref f) [.ref x, b]) (PySem.W.CmpBack Q) E s) : wpAny (model prog w) A (richCompare .Eq b (.ref x)) Q E s := by
  have two : wpAny (model prog w) A (tryCompare (.ref x) (cmpInfo CmpOp.Eq).2.2 b) (fun r s' => ∃ v, r = some v ∧ Q v s') E s := by
    unfold tryCompare
    refine wpAny_bind (ifBound_K X I hs hf (wpAny_mono h (fun v s' hv => ?_) fun _ _ e => e))
    cases v <;> first | exact hv.elim | exact wpAny_pure ⟨_, rfl, hv⟩
  unfold richCompare
  simp only [hone]
  refine wpAny_holding (wpAny_bind (wpAny_cRoomFor hu ?_))
  refine wpAny_bind (wpAny_typeOf hb (wpAny_bind (I.type.here ?_)))
  have hne : (Value.type T != Value.ref C) = true := rfl
  simp only [hne, if_true]
  refine wpAny_bind ((looks_mroIn X hsub).here ?_)
  simp only [Bool.false_eq_true, if_false, Bool.not_false, if_true]
  refine wpAny_bind (m := tryCompare b _ (.ref x)) (wpAny_tryCompare_declines hb slot (hd _ ⟨rfl, ?_⟩))
  refine wpAny_bind (m := tryCompare (.ref x) _ b) (wpAny_mono two (fun r s' z => ?_) fun _ _ e => e)
  obtain ⟨v, rfl, hq⟩ := z
  exact wpAny_pure hq
end
/-- a value that is no instance of the class, with its type's name -/
inductive Oth (H : Hp) : V → String → Prop
  | non : Oth H .non "NoneType"
  | int (i : Int) : Oth H (.int i) "int"
  | bl (b : Bool) : Oth H (.bl b) "bool"
  | str (z : Str) : Oth H (.str z) "str"
  | lst {p : Addr} {xs : List V} (h : H p = some (.lst xs)) : Oth H (.ref p) "list"
  | tup {p : Addr} {xs : List V} (h : H p = some (.tup xs)) : Oth H (.ref p) "tuple"
  | dct {p : Addr} {kvs : List (Key × V)} (h : H p = some (.dK kvs)) : Oth H (.ref p) "dict"
def tys : List String := ["NoneType", "int", "bool", "str", "list", "tuple", "dict"]
structure EqK (K : PySem.W.Frag) (C : Addr) : Prop where
  nf : ∀ T ∈ tys, subIn K (.type T) (.ref C) = some false
  mr : ∀ T ∈ tys, mroIn K C (.type T) = some false
theorem eqK_of {K : PySem.W.Frag} {C : Addr} (a1 : subIn K (.type "NoneType") (.ref C) = some false) (a2 : subIn K (.type "int") (.ref C) = some false) (a3 : subIn K (.type "bool") (.ref C) = some false) (a4 : subIn K (.type "str") (.ref C) = some false) (a5 : subIn K (.type "list") (.ref C) = some false) (a6 : subIn K (.type "tuple") (.ref C) = some false) (a7 : subIn K (.type "dict") (.ref C) = some false)
    (b1 : mroIn K C (.type "NoneType") = some false) (b2 : mroIn K C (.type "int") = some false) (b3 : mroIn K C (.type "bool") = some false) (b4 : mroIn K C (.type "str") = some false) (b5 : mroIn K C (.type "list") = some false) (b6 : mroIn K C (.type "tuple") = some false) (b7 : mroIn K C (.type "dict") = some false) : EqK K C := by
  refine ⟨fun T hT => ?_, fun T hT => ?_⟩
  · unfold tys at hT
    simp only [List.mem_cons, List.not_mem_nil, or_false] at hT
    rcases hT with rfl | rfl | rfl | rfl | rfl | rfl | rfl <;> assumption
  · unfold tys at hT
    simp only [List.mem_cons, List.not_mem_nil, or_false] at hT
    rcases hT with rfl | rfl | rfl | rfl | rfl | rfl | rfl <;> assumption
section
variable {X : Cx} {CX : CXT} {C : Addr} {k j : Nat} {sp : Sp} {E : XK}
theorem Oth.mem {H : Hp} {x : V} {T : String} (h : Oth H x T) : T ∈ tys := by cases h <;> simp [tys]
theorem oth_type {pins : List (Addr × Obj)} {σ : L2.St} {H : Hp} {s : Shared} {x : V} {u : Value} {T : String} (I : L2.Inv X pins σ H s) (r : RelV x u) (h : Oth H x T) : PySem.W.Looks (model X.prog X.w) s.heap (typeOf u) (.type T) := by
  cases h with
  | non => cases r; exact Looks.of_pure rfl
  | int i => obtain ⟨t, rfl⟩ := r; exact Looks.of_pure rfl
  | bl b => cases r; exact Looks.of_pure rfl
  | str z => obtain ⟨t, rfl⟩ := r; exact Looks.of_pure rfl
  | lst h =>
    cases r
    obtain ⟨z, its, n, _, e⟩ := I.hok _ _ h
    exact fun A Q E s k q => wpAny_typeOf_ref (k _ _ e) q
  | tup h =>
    cases r
    obtain ⟨z, its, _, o, e, hc, n, hd⟩ := I.hok _ _ h
    exact fun A Q E s k q => wpAny_typeOf_ref (k _ _ e) (by rw [hc]; exact q)
  | dct h =>
    cases r
    obtain ⟨z, _, vs, _, o, es, ep, e, hx, _⟩ := I.hok _ _ h
    exact fun A Q E s k q => wpAny_typeOf_ref (k _ _ e) (by rw [hx.1]; exact q)
/-- a == y, y no instance -/
def rEqO (C : Addr) (sp : Sp) (E : XK) : R2 := fun x y H Q => ∃ a T, x = .ref a ∧ Ins C H a ∧ Oth H y T ∧ sp [.ref a, y] H Q E
theorem op_eqO (M : OpM X.prog X.w X.K X.mg X.base CX k C "__eq__" sp) (EK : EqK X.K C) (hr : Room j X.A) (hk : k ≤ j) (hx : Passes CX X E) : OpR X (compareOp .Eq) (rEqO C sp E) := by
  intro pins s σ H x y v u Q I rx ry hq
  obtain ⟨a, T, rfl, ⟨dx, fs, ha⟩, ho, hsp⟩ := hq
  obtain ⟨f, fd, ps, O, F, bd⟩ := M.ex
  cases rx
  obtain ⟨mA, J, _⟩ := ins_get I.hok ha
  obtain ⟨od, J, _⟩ := J.look
  obtain ⟨m, hF⟩ := I.fr
  show wpAny (model X.prog X.w) X.A (richCompare .Eq (.ref a) u) (EP X pins σ Q) X.xe s
  refine PySem.W.cmp_K (op := .Eq) hr.units0 hF I.ok.mod.kin J (oth_type I ry ho) (by unfold PySem.W.notFirst; rw [EK.nf _ ho.mem]; simp) O.hs O.hf ?_
  exact wpAny_mono (run_fn F (hr.mono hk) bd .nil hx I (show Vals [V.ref a, y] [Value.ref a, u] from .cons rfl (.cons ry .nil)) hsp) (fun v s' h => cmpBack h) fun _ _ h => h
/-- a == b, both instances -/
theorem op_eqS (M : OpM X.prog X.w X.K X.mg X.base CX k C "__eq__" sp) (hr : Room j X.A) (hk : k ≤ j) (hx : Passes CX X E) : OpR X (compareOp .Eq) (rOwn C sp E) := by
  intro pins s σ H x y v u Q I rx ry hq
  obtain ⟨a, b, rfl, rfl, ⟨dx, fs, ha⟩, ⟨dy, gs, hb⟩, hsp⟩ := hq
  obtain ⟨f, fd, ps, O, F, bd⟩ := M.ex
  cases rx
  cases ry
  obtain ⟨mA, J, _⟩ := ins_get I.hok ha
  obtain ⟨od, J, _⟩ := J.look
  obtain ⟨mB, J', _⟩ := ins_get I.hok hb
  obtain ⟨od', J', _⟩ := J'.look
  obtain ⟨m, hF⟩ := I.fr
  show wpAny (model X.prog X.w) X.A (richCompare .Eq (.ref a) (.ref b)) (EP X pins σ Q) X.xe s
  refine PySem.W.cmp_K (op := .Eq) (tb := .ref C) hr.units0 hF I.ok.mod.kin J J'.type (by simp [PySem.W.notFirst]) O.hs O.hf ?_
  exact wpAny_mono (run_fn F (hr.mono hk) bd .nil hx I (show Vals [V.ref a, V.ref b] [Value.ref a, Value.ref b] from .cons rfl (.cons rfl .nil)) hsp) (fun v s' h => cmpBack h) fun _ _ h => h
/-- y == a, y no instance and not None -/
def rEqR (C : Addr) (sp : Sp) (E : XK) : R2 := fun x y H Q => ∃ a T, y = .ref a ∧ x ≠ .non ∧ Ins C H a ∧ Oth H x T ∧ sp [.ref a, x] H Q E
theorem op_eqR (M : OpM X.prog X.w X.K X.mg X.base CX k C "__eq__" sp) (EK : EqK X.K C) (hr : Room j X.A) (hk : k ≤ j) (hx : Passes CX X E) : OpR X (compareOp .Eq) (rEqR C sp E) := by
  intro pins s σ H x y v u Q I rx ry hq
  obtain ⟨a, T, rfl, hnn, ⟨dx, fs, ha⟩, ho, hsp⟩ := hq
  obtain ⟨f, fd, ps, O, F, bd⟩ := M.ex
  cases ry
  obtain ⟨mA, J0, _⟩ := ins_get I.hok ha
  obtain ⟨od, J, _⟩ := J0.look
  have KX := I.kIn
  have last : wpAny (model X.prog X.w) X.A (call (.ref f) [.ref a, v]) (PySem.W.CmpBack (EP X pins σ Q)) X.xe s :=
    wpAny_mono (run_fn F (hr.mono hk) bd .nil hx I (show Vals [V.ref a, x] [Value.ref a, v] from .cons rfl (.cons rx .nil)) hsp) (fun v s' h => cmpBack h) fun _ _ h => h
  have ob : s.heap.get? a = some (io C dx) := J0.obj
  have inn : ∀ T' ∈ tys, PySem.W.Looks (model X.prog X.w) s.heap (isInstance (.ref a) (.type T')) false := fun T' hT => J.type.andThen (looks_mroIn KX (EK.mr T' hT))
  show wpAny (model X.prog X.w) X.A (richCompare .Eq v (.ref a)) (EP X pins σ Q) X.xe s
  have hm := EK.mr T ho.mem
  obtain ⟨hp, g, d, t, os⟩ := s
  cases ho with
  | non => exact absurd rfl hnn
  | int i =>
    obtain ⟨tk, rfl⟩ := rx
    exact rc_refl hr.units0 KX (T := "int") rfl J PySem.F.slot_int_eq (by rfl) (fun Q' h => GQ.call_here PySem.F.slot_int_eq rfl PySem.F.entry_int_eq (PySem.F.args_int_eq_2 _ _) (int_decl i tk ob h)) hm O.hs O.hf last
  | bl b =>
    cases rx
    exact rc_refl hr.units0 KX (T := "bool") rfl J PySem.F.slot_bool_eq (by rfl) (fun Q' h => GQ.call_here PySem.F.slot_bool_eq rfl PySem.F.entry_int_eq (PySem.F.args_int_eq_2 _ _) (bool_decl b ob h)) hm O.hs O.hf last
  | str z =>
    obtain ⟨tk, rfl⟩ := rx
    exact rc_refl hr.units0 KX (T := "str") rfl J PySem.F.slot_str_eq (by rfl) (fun Q' h => GQ.call_here PySem.F.slot_str_eq rfl PySem.F.entry_str_eq (PySem.F.args_str_eq_2 _ _) (str_decl z tk ob h)) hm O.hs O.hf last
  | @lst p xs h =>
    cases rx
    obtain ⟨z, its, n, _, e⟩ := I.hok _ _ h
    exact rc_refl hr.units0 KX (T := "list") ⟨_, e, rfl⟩ J PySem.F.slot_list_eq (by rfl) (fun Q' h => GQ.call_here PySem.F.slot_list_eq ⟨_, e, rfl⟩ PySem.F.entry_list_eq (PySem.F.args_list_eq_2 _ _) (list_decl e (inn _ (by simp [tys])) ob h)) hm O.hs O.hf last
  | @tup p xs h =>
    cases rx
    obtain ⟨z, its, _, o, e, hc, n, hd⟩ := I.hok _ _ h
    obtain ⟨oc, odi, oda, osl⟩ := o
    dsimp only at hc hd
    subst hc hd
    exact rc_refl hr.units0 KX (T := "tuple") ⟨_, e, rfl⟩ J PySem.F.slot_tuple_eq (by rfl) (fun Q' h => GQ.call_here PySem.F.slot_tuple_eq ⟨_, e, rfl⟩ PySem.F.entry_tuple_eq (PySem.F.args_tuple_eq_2 _ _) (tuple_decl e (inn _ (by simp [tys])) ob h)) hm O.hs O.hf last
  | @dct p kvs h =>
    cases rx
    obtain ⟨z, _, vs, _, o, es, ep, e, hx', hd, _⟩ := I.hok _ _ h
    have hc := hx'.1
    obtain ⟨oc, odi, oda, osl⟩ := o
    dsimp only at hc hd
    subst hc hd
    exact rc_refl hr.units0 KX (T := "dict") ⟨_, e, rfl⟩ J PySem.F.slot_dict_eq (by rfl) (fun Q' h => GQ.call_here PySem.F.slot_dict_eq ⟨_, e, rfl⟩ PySem.F.entry_dict_eq (PySem.F.args_dict_eq_2 _ _) (dict_decl e (inn _ (by simp [tys])) ob h)) hm O.hs O.hf last
end
/-! ### fields, methods, static methods, constants of a class -/
section
variable {X : Cx} {CX : CXT} {K : PySem.W.Frag} {C : Addr} {k j : Nat} {sp : Sp} {E : XK} {o e value : Expr} {es : List Expr} {f m : Str} {pos pos' apos : Pos} {ta tv te : TE} {t : TA} {pl : Sem Bool}
/-- o.f, o an instance of the class at C -/
def tFl (C : Addr) (ta : TE) (f : Str) : TE := fun σ H Q => ta σ H fun x H1 => ∃ a dx fs v, x = .ref a ∧ H1 a = some (.ins C dx fs) ∧ fs.lookup f = some v ∧ Q v H1
theorem pe_fl (c : Cls X.K C) (n : NoAttr X.K C f) (he : PE X e ta) (hb : attributeBase e f X.env (eval e X.env) = eval e X.env := by rfl) : PE X (.Attribute e f pos) (tFl C ta f) := by
  refine ⟨fun pins s σ H Q I h => ?_⟩
  refine attr_of hb (thn (he.run pins s σ H _ I h) fun u s1 ⟨x, H1, I1, rx, a, dx, fs, v, ex, ea, l, q⟩ => ?_)
  subst ex
  obtain rfl : u = Value.ref a := rx
  exact getattr_ok I1 ea c n l fun u' s2 I2 ru => ⟨v, H1, I2, ru, q⟩
def sFl (C : Addr) (ta tv : TE) (f : Str) : TS := fun D σ H => tv σ H fun y H1 => ta σ H1 fun x H2 => ∃ a dx fs, x = .ref a ∧ H2 a = some (.ins C dx fs) ∧ fs.length < 1000 ∧ D.nx σ (upd H2 a (.ins C dx (putF f y fs)))
theorem ps_fl (c : Cls X.K C) (n : NoAttr X.K C f) (ha : PE X o ta) (hv : PE X value tv) (hs : swapsWith value (some (.Attribute o f pos')) pos.line X.env = pure false := by rfl) : PS X (.Assign [.Attribute o f pos'] value pos) (sFl C ta tv f) := by
  refine ⟨fun pins s σ H D I h => ?_⟩
  refine plainObj_wpAny_Assign_Attribute (thn (hv.run pins s σ H _ I h) fun u s1 ⟨y, H1, I1, ry, q⟩ => thn (ha.run pins s1 σ H1 _ I1 q) fun ov s2 ⟨x, H2, I2, rx, a, dx, fs, ex, ea, l, q2⟩ => ?_) hs
  subst ex
  obtain rfl : ov = Value.ref a := rx
  exact setattr_ok I2 ea c n l ry fun s3 I3 => ⟨σ, _, I3, q2⟩
/-- a static method of the class -/
structure SMet (K : PySem.W.Frag) (C : Addr) (m : Str) (p g : Addr) : Prop where
  cr : ∃ mc, ClX.CRead K C mc ∧ findCls K (.ref C) mc m = some (.get (.builtin "staticmethod.__get__") (.ref p) .none (.ref C))
  rc : ∃ rest, recIn K p "staticmethod" = some (.ref g :: rest)
  kp : keepIn K (.ref g) = true
structure StM (P : Program) (w : World) (K : PySem.W.Frag) (mg : Str → Option Value) (base : Heap) (CX : CXT) (k : Nat) (C : Addr) (m : Str) (sp : Sp) : Prop where
  ex : ∃ (p g : Addr), SMet K C m p g ∧ FnR P w K mg base CX k g sp
def tSM (C : Addr) (sp : Sp) (E : XK) (ta : TE) (t : TA) : TE := fun σ H Q => ta σ H fun x H1 => x = .ref C ∧ t σ H1 fun vs H2 => sp vs H2 Q E
theorem pe_sm (M : StM X.prog X.w X.K X.mg X.base CX k C m sp) (hr : Room j X.A) (hk : k ≤ j) (hx : Passes CX X E) (he : PE X o ta) (ha : PA X (e :: es) t)
    (hst : starEach (e :: es) X.env = (false, eval e X.env) :: starEach es X.env := by rfl) (hpl : (backTo pos (starEach es X.env)).any (·.1) = false := by rfl)
    (ht : eval (.Call (.Attribute o m apos) (e :: es) [] pos) X.env = (do
      let ov ← eval o X.env
      standAt apos.atName
      let (f, first) ← holding [ov] (getMethod ov m pl)
      callWith pos f first (backTo pos (starEach (e :: es) X.env)) (backToKw pos (keywordEach [] X.env))) := by rfl) :
    PE X (.Call (.Attribute o m apos) (e :: es) [] pos) (tSM C sp E ta t) := by
  obtain ⟨p, g, ⟨⟨mc, r, at_⟩, ⟨rest, rc⟩, kp⟩, F⟩ := M.ex
  refine ⟨fun pins s σ H Q I h => ?_⟩
  refine PySem.W.methodCall_KW (pl := pl) (thn (he.run pins s σ H _ I h) fun u s1 ⟨x, H1, I1, rx, ex, q⟩ => ?_) ht
  subst ex
  obtain rfl : u = Value.ref C := rx
  refine PySem.W.method_cls I1.kIn r.ga (PySem.W.cls_bind I1.kIn r.rd at_ (wpAny_call (PySem.W.sm_get (s := { s1 with toks := s1.toks + 1 }) I1.kIn rc (PySem.W.handed_on rfl ?_))))
  have I2 := I1.tok (s1.toks + 1)
  refine PySem.W.callWith_K (h₀ := X.base) I.ok.mod.kin kp (thn (ha.run pos pins _ σ H1 _ I2 q) fun us s3 ⟨vs, H2, I3, rv, q2⟩ => ⟨I3.kIn, ?_⟩) hst hpl
  exact wpAny_call (run_fnR F (hr.mono hk) hx I3 rv q2)
theorem cvR {C : Addr} {f : Str} {v : V} {R : V → Prop} (h : ∃ mc u, ClX.CRead K C mc ∧ ClX.CVal K C mc f v u) (q : R v) : ∃ (C' : Addr) (mc : Value) (v : V) (u : Value), V.ref C = .ref C' ∧ ClX.CRead K C' mc ∧ ClX.CVal K C' mc f v u ∧ R v := by
  obtain ⟨mc, u, r, c⟩ := h
  exact ⟨C, mc, v, u, rfl, r, c, q⟩
theorem kpe_cval (K : PySem.W.Frag) (he : PE X e ta) (hK : X.K = K := by rfl) (hb : attributeBase e f X.env (eval e X.env) = eval e X.env := by rfl) : PE X (.Attribute e f pos) (ClX.tCVal K ta f) := by subst hK; exact ClX.pe_cval he hb
end
section
variable {K : PySem.W.Frag} {C : Addr} {sp : Sp} {E : XK} {σ : L2.St} {H : Hp} {Q : VK} {D : Ends} {ta tv : TE} {t : TA} {f m : Str} {dvs : List V} {x y : V}
theorem g_fl (h : ta σ H fun x H1 => ∃ a dx fs v, x = .ref a ∧ H1 a = some (.ins C dx fs) ∧ fs.lookup f = some v ∧ Q v H1) : tFl C ta f σ H Q := h
theorem g_flR {a dx : Addr} {fs : List (Str × V)} {v : V} {R : V → Prop} (ha : H a = some (.ins C dx fs)) (hl : fs.lookup f = some v) (h : R v) : ∃ (a' dx' : Addr) (fs : List (Str × V)) (v : V), V.ref a = .ref a' ∧ H a' = some (.ins C dx' fs) ∧ fs.lookup f = some v ∧ R v := ⟨a, dx, fs, v, rfl, ha, hl, h⟩
theorem g_sfl (h : tv σ H fun y H1 => ta σ H1 fun x H2 => ∃ a dx fs, x = .ref a ∧ H2 a = some (.ins C dx fs) ∧ fs.length < 1000 ∧ D.nx σ (upd H2 a (.ins C dx (putF f y fs)))) : sFl C ta tv f D σ H := h
theorem g_sflR {a dx : Addr} {fs : List (Str × V)} {R : Addr → Addr → List (Str × V) → Prop} (ha : H a = some (.ins C dx fs)) (hz : fs.length < 1000) (h : R a dx fs) : ∃ (a' dx' : Addr) (fs : List (Str × V)), V.ref a = .ref a' ∧ H a' = some (.ins C dx' fs) ∧ fs.length < 1000 ∧ R a' dx' fs := ⟨a, dx, fs, rfl, ha, hz, h⟩
theorem g_make (h : t σ H fun vs H1 => ∀ x dx, H1 x = none → H1 dx = none → dx ≠ x → sp (.ref x :: (vs ++ dvs)) (upd (upd H1 dx (.own x)) x (.ins C dx [])) (fun v H2 => v = .non ∧ Q (.ref x) H2) E) : tMake C sp dvs E t σ H Q := h
theorem g_meth (h : ta σ H fun x H1 => ∃ a dx fs, x = .ref a ∧ H1 a = some (.ins C dx fs) ∧ fs.lookup m = none ∧ t σ H1 fun vs H2 => sp (x :: (vs ++ dvs)) H2 Q E) : tMeth C m sp dvs E ta t σ H Q := h
theorem g_methR {a dx : Addr} {fs : List (Str × V)} {R : Prop} (ha : H a = some (.ins C dx fs)) (hl : fs.lookup m = none) (h : R) : ∃ (a' dx' : Addr) (fs : List (Str × V)), V.ref a = .ref a' ∧ H a' = some (.ins C dx' fs) ∧ fs.lookup m = none ∧ R := ⟨a, dx, fs, rfl, ha, hl, h⟩
theorem g_sm (h : ta σ H fun x H1 => x = .ref C ∧ t σ H1 fun vs H2 => sp vs H2 Q E) : tSM C sp E ta t σ H Q := h
theorem g_cv (h : ta σ H fun x H1 => ∃ C mc v u, x = .ref C ∧ ClX.CRead K C mc ∧ ClX.CVal K C mc f v u ∧ Q v H1) : ClX.tCVal K ta f σ H Q := h
theorem g_own {a b : Addr} (ha : Ins C H a) (hb : Ins C H b) (h : sp [.ref a, .ref b] H Q E) : rOwn C sp E (.ref a) (.ref b) H Q := ⟨a, b, rfl, rfl, ha, hb, h⟩
theorem g_ownI {a : Addr} {i : Int} (ha : Ins C H a) (h : sp [.ref a, .int i] H Q E) : rOwnI C sp E (.ref a) (.int i) H Q := ⟨a, i, rfl, rfl, ha, h⟩
theorem g_ownU {a : Addr} (ha : Ins C H a) (h : sp [.ref a] H Q E) : rOwnU C sp E (.ref a) H Q := ⟨a, rfl, ha, h⟩
theorem g_ownB {a : Addr} (ha : Ins C H a) (h : sp [.ref a] H (fun v H' => ∃ b, v = .bl b ∧ Q (.bl b) H') E) : rOwnB C sp E [.ref a] H Q := ⟨a, rfl, ha, h⟩
theorem g_eqO {a : Addr} {T : String} (ha : Ins C H a) (ho : Oth H y T) (h : sp [.ref a, y] H Q E) : rEqO C sp E (.ref a) y H Q := ⟨a, T, rfl, ha, ho, h⟩
theorem g_eqR {a : Addr} {T : String} (ha : Ins C H a) (hn : x ≠ .non) (ho : Oth H x T) (h : sp [.ref a, x] H Q E) : rEqR C sp E x (.ref a) H Q := ⟨a, T, rfl, hn, ha, ho, h⟩
/-- isinstance(a, C) -/
theorem g_isC {a dx : Addr} {fs : List (Str × V)} (c : C8.InsC K C) (ha : H a = some (.ins C dx fs)) (h : Q (.bl true) H) : rIsi K [.ref a, .ref C] H Q :=
  ⟨_, _, _, _, true, rfl, .own C, .base (TyOf.ins ha c.cl c.ha c.hn c.htk c.hm), c.me, h⟩
end
theorem kit_tyC {K : PySem.W.Frag} {C : Addr} {T : String} (h1 : isClsIn K C = true) (h2 : typeIn K (.ref C) = some (.type "type")) (h : subIn K (.type T) (.ref C) = some false) : kitOne K (.type T) (.ref C) = some false := by
  unfold kitOne
  rw [show (Value.type T == Value.ref C) = false from rfl, if_neg Bool.false_ne_true]
  unfold kitCls
  have h1' : (clsIn K C).isSome = true := h1
  simp only [h1', h2, beq_self_eq_true, Bool.and_self, if_true]
  exact h
/-- isinstance(y, C), y no instance -/
theorem g_isO {K : PySem.W.Frag} {C : Addr} {H : Hp} {Q : VK} {y : V} {T : String} (EK : EqK K C) (h1 : isClsIn K C = true) (h2 : typeIn K (.ref C) = some (.type "type")) (ho : Oth H y T) (h : Q (.bl false) H) : rIsi K [y, .ref C] H Q := by
  have hk := kit_tyC (T := T) h1 h2 (EK.nf T ho.mem)
  suffices hT : TyX K H y (.type T) by exact ⟨y, .ref C, _, _, false, rfl, .own C, hT, hk, h⟩
  cases ho with
  | non => exact .base .non
  | int i => exact .base (.int i)
  | bl b => exact .base (.bl b)
  | str z => exact .base (.str z)
  | lst h => exact .base (.lst h)
  | tup h => exact .base (.tup h)
  | dct h => exact .base (.dK h)
end WOwn
set_option Elab.async false
set_option linter.all false
set_option maxRecDepth 100000
set_option maxHeartbeats 4000000
namespace WDict
open PySem PySem.Spec PyProof.Rows L2
/-! dicts: the steps of a reading -/
section
variable {σ : L2.St} {H : Hp} {Q : VK} {D : Ends} {td ty tx tv : TE}
theorem g_dget (h : td σ H fun x H1 => ty σ H1 fun y H2 => ∃ a v, x = .ref a ∧ DGet H2 a y (some v) ∧ Q v H2) : tDGet td ty σ H Q := h
theorem g_din (h : ty σ H fun y H1 => td σ H1 fun x H2 => ∃ a o, x = .ref a ∧ DGet H2 a y o ∧ Q (.bl o.isSome) H2) : tDIn ty td σ H Q := h
theorem g_dnotin (h : ty σ H fun y H1 => td σ H1 fun x H2 => ∃ a o, x = .ref a ∧ DGet H2 a y o ∧ Q (.bl (!o.isSome)) H2) : tDNotIn ty td σ H Q := h
theorem g_dput (h : tv σ H fun v H1 => td σ H1 fun x H2 => ty σ H2 fun y H3 => ∃ a H4, x = .ref a ∧ DPut H3 a y v H4 ∧ D.nx σ H4) : sDPut td ty tv D σ H := h
theorem g_dnew (h : ∀ p, H p = none → Q (.ref p) (upd H p (.dK []))) : tDNewK σ H Q := h
theorem g_dget2 (h : td σ H fun x H1 => ∃ a, x = .ref a ∧ IsD H1 a ∧ ty σ H1 fun y H2 => tx σ H2 fun z H3 => ∃ o, DGet H3 a y o ∧ Q (o.getD z) H3) : tDGet2 td ty tx σ H Q := h
theorem g_dsetd (h : td σ H fun x H1 => ∃ a, x = .ref a ∧ IsD H1 a ∧ ty σ H1 fun y H2 => tx σ H2 fun z H3 => ∃ (kvs : List (Key × V)) (k : Key), H3 a = some (.dK kvs) ∧ y = kV k ∧ kvs.length < sizeLine ∧
    (∀ v, valV kvs k = some v → Q v H3) ∧ (valV kvs k = none → Q z (upd H3 a (.dK (putK kvs k z))))) : tDSetd td ty tx σ H Q := h
theorem g_tru {K : PySem.W.Frag} {Qb : Bool → Hp → Prop} (h : td σ H fun x H1 => ∃ k, TruV K x H1 k ∧ Qb k H1) : tTru K td σ H Qb := h
theorem g_disp {trs : List (TE × TE)} (h : ∀ p, H p = none → tPairs trs σ (upd H p (.dK [])) fun ps H2 => H2 p = some (.dK []) ∧ ∃ kvs : List (Key × V), ps = kvs.map (fun kv => (kV kv.1, kv.2)) ∧ kvs.length ≤ 15 ∧ Q (.ref p) (upd H2 p (.dK (mergeK [] kvs)))) : tDisp trs σ H Q := h
theorem g_pair {tk tv : TE} {r : List (TE × TE)} {Q : List (V × V) → Hp → Prop} (h : tk σ H fun x H1 => tv σ H1 fun y H2 => tPairs r σ H2 fun ps H3 => Q ((x, y) :: ps) H3) : tPairs ((tk, tv) :: r) σ H Q := h
theorem g_pair0 {Q : List (V × V) → Hp → Prop} (h : Q [] H) : tPairs [] σ H Q := h
/-- the pairs are read, nothing else is made -/
theorem g_shown {p : Addr} {kvs m : List (Key × V)} {Q : VK} (hk : kvs.length ≤ 15) (e : mergeK [] kvs = m) (h : Q (.ref p) (upd H p (.dK m))) {ps : List (V × V)} (ep : ps = kvs.map (fun kv => (kV kv.1, kv.2))) :
    (upd H p (.dK [])) p = some (.dK []) ∧ ∃ kvs : List (Key × V), ps = kvs.map (fun kv => (kV kv.1, kv.2)) ∧ kvs.length ≤ 15 ∧ Q (.ref p) (upd (upd H p (.dK [])) p (.dK (mergeK [] kvs))) := ⟨upd_same, kvs, ep, hk, by rw [upd_upd, e]; exact h⟩
/-- d[i], d[x], there -/
theorem g_getI {a : Addr} {kvs : List (Key × V)} {i : Int} {v : V} {R : V → Prop} (e : H a = some (.dK kvs)) (hv : valV kvs (.inl i) = some v) (h : R v) : ∃ a' v, V.ref a = .ref a' ∧ DGet H a' (.int i) (some v) ∧ R v := ⟨a, v, rfl, by rw [← hv]; exact .inl ⟨kvs, .inl i, .inl e, rfl, rfl⟩, h⟩
theorem g_getS {a : Addr} {kvs : List (Key × V)} {x : Str} {v : V} {R : V → Prop} (e : H a = some (.dK kvs)) (hv : valV kvs (.inr x) = some v) (h : R v) : ∃ a' v, V.ref a = .ref a' ∧ DGet H a' (.str x) (some v) ∧ R v := ⟨a, v, rfl, by rw [← hv]; exact .inl ⟨kvs, .inr x, .inl e, rfl, rfl⟩, h⟩
/-- i in d -/
theorem g_inI {a : Addr} {kvs : List (Key × V)} {i : Int} {R : Option V → Prop} (e : H a = some (.dK kvs)) (h : R (valV kvs (.inl i))) : ∃ a' o, V.ref a = .ref a' ∧ DGet H a' (.int i) o ∧ R o := ⟨a, _, rfl, .inl ⟨kvs, .inl i, .inl e, rfl, rfl⟩, h⟩
/-- d[i] = v, d[x] = v -/
theorem g_putI {a : Addr} {kvs : List (Key × V)} {i : Int} {v : V} {R : Hp → Prop} (e : H a = some (.dK kvs)) (hl : kvs.length < sizeLine) (h : R (upd H a (.dK (putK kvs (.inl i) v)))) : ∃ a' H4, V.ref a = .ref a' ∧ DPut H a' (.int i) v H4 ∧ R H4 := ⟨a, _, rfl, .inl ⟨kvs, .inl i, e, rfl, hl, rfl⟩, h⟩
theorem g_putS {a : Addr} {kvs : List (Key × V)} {x : Str} {v : V} {R : Hp → Prop} (e : H a = some (.dK kvs)) (hl : kvs.length < sizeLine) (h : R (upd H a (.dK (putK kvs (.inr x) v)))) : ∃ a' H4, V.ref a = .ref a' ∧ DPut H a' (.str x) v H4 ∧ R H4 := ⟨a, _, rfl, .inl ⟨kvs, .inr x, e, rfl, hl, rfl⟩, h⟩
end
theorem putK_le {κ : Type} [DecidableEq κ] (kvs : List (κ × V)) (k : κ) (v : V) : (putK kvs k v).length ≤ kvs.length + 1 := by
  unfold putK
  split <;> simp
theorem valV_put1 {κ : Type} [DecidableEq κ] {kvs : List (κ × V)} {k : κ} {v : V} : valV (putK kvs k v) k = some v := by rw [valV_put, if_pos rfl]
theorem valV_put2 {κ : Type} [DecidableEq κ] {kvs : List (κ × V)} {k j : κ} {v : V} (h : j ≠ k) : valV (putK kvs k v) j = valV kvs j := by rw [valV_put, if_neg h]
theorem inl_ne {n m : Nat} (h : n ≠ m) : (Sum.inl (n : Int) : Key) ≠ Sum.inl (m : Int) := fun e => h (by have := Sum.inl.inj e; omega)
section
variable {X : Cx}
/-- sorted(d), d's keys ints, any number of them -/
theorem call_sortedDIw (hcalm : X.calm = true) : CallR X (.builtin "sorted") (fun xs H Q => ∃ (a : Addr) (kvs : List (Key × V)) (ks : List Int), xs = [.ref a] ∧ Rd H a (.dK kvs) ∧ kvs.map (·.1) = ks.map Sum.inl ∧ ks.length ≤ 1000000 ∧
    ∀ (ys : List Int) (p : Addr), ys.Perm ks → ys.Pairwise (· ≤ ·) → H p = none → Q (.ref p) (upd H p (.lst (ys.map V.int)))) := by
  intro pins s σ H xs us Q I r q
  obtain ⟨a, kvs, ks, ex, hd, hks, hmill, q⟩ := q
  subst ex
  obtain ⟨u, eu, rx⟩ := vals1 r
  subst eu
  cases rx
  obtain ⟨z, lo, vs, rel, dd⟩ := dk_rd I.hok hd
  obtain ⟨ep, hat⟩ := dd.dictAt
  have hkeys : vs.map (·.1) = ks.map Sum.inl := rel.keys.symm.trans hks
  have hl : vs.length = ks.length := by
    have e := congrArg List.length hkeys
    rw [List.length_map, List.length_map] at e
    exact e
  have h16 : vs.length ≤ sizeLine := by rw [hl, sizeLine_eq]; omega
  refine Calls.call_function_entry PyProof.Rows.kind_sorted PyProof.Rows.plain_sorted PyProof.Rows.entry_sorted (PyProof.Rows.args_sorted1 _) ?_
  unfold Builtin.«sorted»
  refine wpAny_bind (m := checkCount "sorted" 1 1 _) (wpAny_pure ?_)
  refine wpAny_bind (PySem.W.kdu_collect (A := X.A.in1) (PySem.W.kdl_dict (knd := mixKind X.prog X.w) (kvs := vs) (ep := ep) lo) (I.ok.hd hcalm) hat h16 fun h' tk acc hk hacc => ?_)
  have hal : acc.toList.length = ks.length := by rw [Array.length_toList, hacc.1, hl]
  have hS : IntsAre acc.toList ks := ints_each hal fun j v e => by
    obtain ⟨k, x, e1, e2⟩ := hacc.2 j v (by rw [← Array.getElem?_toList]; exact e)
    have e3 : (vs.map (·.1))[j]? = some k := by rw [List.getElem?_map, e1]; rfl
    rw [hkeys, List.getElem?_map] at e3
    cases e4 : ks[j]? with
    | none => rw [e4] at e3; cases e3
    | some y =>
      rw [e4] at e3
      have e5 : Sum.inl y = k := Option.some.inj e3
      subst e5
      rcases keyIs_shape (show keyIs (Sum.inl y) v = true from e2) with ⟨i, t, ek, ev⟩ | ⟨z, t, ek, ev⟩
      · cases ek
        exact ⟨y, t, rfl, ev⟩
      · cases ek
  have I1 : L2.Inv X pins σ H { s with heap := h', toks := tk } := I.kept hk
  have hz : acc.toList.length ≤ sizeLine := by rw [hal, sizeLine_eq]; omega
  refine wpAny_bind (wpAny_newList ?_ hz)
  have hoL : (h'.push (seqObj "list" acc.toList.toArray 0)).get? h'.objs.size = some (seqObj "list" acc.toList.toArray 0) := Heap.get?_push_size _ rfl
  show wpAny _ _ _ _ _ { s with heap := h'.push (seqObj "list" acc.toList.toArray 0), toks := tk }
  refine wpAny_bind (wpAny_holding (wpAny_call_entry PyProof.Rows.slot_list_sort ⟨_, hoL, rfl⟩ PyProof.Rows.entry_list_sort
    (SrtO.list_sort_ord SrtO.swo_int hoL hz (fun h2 => SrtO.ints_sortable hS h2) fun out h1 h2 => ⟨_, rfl, ?_⟩) (PyProof.Rows.args_list_sort _)))
  obtain ⟨g1, g2, g3⟩ := SrtO.ints_out hS h1 h2
  obtain ⟨e', he'⟩ := PyProof.Rows.sortedHeap_at (vs := acc.toList) (out := out.toArray) hoL
  have hlen : ((out.map SrtO.iv).map V.int).length ≤ sizeLine := by
    rw [List.length_map, g2.length_eq, sizeLine_eq]
    omega
  refine wpAny_pure ⟨_, rfl, .ref h'.objs.size, upd H h'.objs.size (.lst ((out.map SrtO.iv).map V.int)), I1.laid (t' := tk) (fun b u e => ?_) (Nat.le_refl _)
    (show ObjOk X.prog X.w _ _ _ (.lst ((out.map SrtO.iv).map V.int)) from ⟨hlen, out, e', vals_of_ints g1, he'⟩), rfl, q _ _ g2 g3 (I1.hok.fresh (Nat.le_refl _))⟩
  have hb : b < h'.objs.size := Heap.lt_size e
  rw [PyProof.Rows.sortedHeap_old (Nat.ne_of_lt hb) (by rw [size_push']; exact Nat.lt_succ_of_lt hb)]
  exact Heap.get?_push_of_some _ e
end
end WDict
set_option Elab.async false
set_option linter.all false
set_option maxRecDepth 100000
set_option maxHeartbeats 4000000
namespace WL
open PySem PySem.Spec PyProof.Rows L2
/-! loops over pairs, tuples, ranges: the steps of a reading -/
section
variable {K : PySem.W.Frag} {σ : L2.St} {H : Hp} {D : Ends} {ta tl : TE} {tr : TA} {tbd : TS} {g : TG} {p : Addr} {xs ys : List V}
theorem g_iEnum {R : It → Hp → Prop} (h : tr σ H fun vs H1 => ∃ a xs, vs = [.ref a] ∧ SqL K H1 a xs ∧ R (Ite K a) H1) : iEnum K tr σ H R := h
theorem g_iTup {R : It → Hp → Prop} (h : tl σ H fun x H1 => ∃ a, x = .ref a ∧ (∃ xs, SqT K H1 a xs) ∧ R (Itt K a) H1) : iTup K tl σ H R := h
/-- for i, x in enumerate(xs) -/
theorem f_enum (hS : SqL K H p xs) (Pv : Nat → L2.St → Hp → Prop) (h0 : Pv 0 σ H) (hl : ∀ i σ H, i ≤ xs.length → Pv i σ H → SqL K H p xs)
    (hs : ∀ i x T σ H, xs[i]? = some x → Pv i σ H → H T = none → g (.ref T) σ (upd H T (.tup [.int (i : Nat), x])) fun σ2 H2 => tbd { D with nx := Pv (i + 1), ct := Pv (i + 1), bk := D.nx } σ2 H2) (hd : ∀ σ H, Pv xs.length σ H → D.nx σ H) :
    ∃ a xs, [V.ref p] = [.ref a] ∧ SqL K H a xs ∧ tForK g tbd D σ (Ite K a) H :=
  ⟨p, xs, rfl, hS, for_it walk_enum Pv h0 hl (fun i x σ H H' hi q y => by
    obtain ⟨T, u, v, rfl, hT, rfl, e1, e2⟩ := y
    cases e1
    exact hs i v T σ H e2 q hT) hd⟩
/-- for x in a tuple -/
theorem f_tup (hS : SqT K H p xs) (Pv : Nat → L2.St → Hp → Prop) (h0 : Pv 0 σ H) (hl : ∀ i σ H, i ≤ xs.length → Pv i σ H → SqT K H p xs)
    (hs : ∀ i x σ H, xs[i]? = some x → Pv i σ H → g x σ H fun σ2 H2 => tbd { D with nx := Pv (i + 1), ct := Pv (i + 1), bk := D.nx } σ2 H2) (hd : ∀ σ H, Pv xs.length σ H → D.nx σ H) :
    ∃ a, V.ref p = .ref a ∧ (∃ xs, SqT K H a xs) ∧ tForK g tbd D σ (Itt K a) H :=
  ⟨p, rfl, ⟨_, hS⟩, for_it walk_tup Pv h0 hl (fun i x σ H H' hi q y => by
    obtain ⟨rfl, e⟩ := y
    exact hs i x σ _ e q) hd⟩
/-- for k in range(a, b) -/
theorem f_rng2 {lo hi : Int} (h : -(2 ^ 62) ≤ lo ∧ lo < 2 ^ 62 ∧ -(2 ^ 62) ≤ hi ∧ hi < 2 ^ 62) (Pv : Nat → L2.St → Hp → Prop) (h0 : Pv 0 σ H)
    (hs : ∀ i σ H, i < (hi - lo).toNat → Pv i σ H → g (.int (lo + i)) σ H fun σ2 H2 => tbd { D with nx := Pv (i + 1), ct := Pv (i + 1), bk := D.nx } σ2 H2) (hd : ∀ σ H, Pv (hi - lo).toNat σ H → D.nx σ H) :
    (-(2 ^ 62) ≤ lo ∧ lo < 2 ^ 62 ∧ -(2 ^ 62) ≤ hi ∧ hi < 2 ^ 62) ∧ tForK g tbd D σ (Itr lo (hi - lo).toNat) H := ⟨h, for_range Pv h0 hs hd⟩
/-- a tuple unpacked -/
theorem g_gTup {n : Nat} {t : TGs} {Q : L2.St → Hp → Prop} (hS : SqT K H p xs) (hn : xs.length = n) (h : t xs σ H Q) : gTup K n t (.ref p) σ H Q := ⟨p, xs, rfl, hS, hn, h⟩
theorem g_bm0 {T : String} {r : V → List V → Hp → VK → Prop} {to : TE} {Q : VK} (h : to σ H fun x H1 => tyV K T x H1 ∧ r x [] H1 Q) : tBM0 K T r to σ H Q := h
theorem g_pop {zs : List V} {y : V} {Q : VK} (hs : H p = some (.lst xs)) (e : xs = zs ++ [y]) (h : Q y (upd H p (.lst zs))) : rPop (.ref p) [] H Q :=
  ⟨p, xs, y, rfl, rfl, hs, by subst e; simp, by subst e; rw [List.dropLast_concat]; exact h⟩
end
/-! lists of numbers from 0 on -/
def nv (l : List Nat) : List V := l.map fun n : Nat => V.int (n : Int)
theorem nv_app (l m : List Nat) : nv (l ++ m) = nv l ++ nv m := List.map_append
theorem nv_app_one (l : List Nat) (n : Nat) : nv (l ++ [n]) = nv l ++ [V.int (n : Int)] := nv_app l [n]
theorem nv_int (l : List Nat) : nv l = (l.map fun n : Nat => (n : Int)).map V.int := by rw [nv, List.map_map]; rfl
theorem nv_len (l : List Nat) : (nv l).length = l.length := List.length_map _
theorem nv_at {l : List Nat} {i : Nat} {n : Nat} (h : l[i]? = some n) : (nv l)[i]? = some (.int (n : Int)) := by rw [nv, List.getElem?_map, h]; rfl
theorem at_nv {l : List Nat} {i : Nat} {x : V} (h : (nv l)[i]? = some x) : ∃ n : Nat, l[i]? = some n ∧ x = .int (n : Int) := map_atG h
theorem nv_take (l : List Nat) (i : Nat) : (nv l).take i = nv (l.take i) := by rw [nv, nv, List.map_take]
theorem nv_drop (l : List Nat) (i : Nat) : (nv l).drop i = nv (l.drop i) := by rw [nv, nv, List.map_drop]
theorem nv_inj {l m : List Nat} (h : nv l = nv m) : l = m := by
  induction l generalizing m with
  | nil => cases m with
    | nil => rfl
    | cons b m => cases h
  | cons a l ih => cases m with
    | nil => cases h
    | cons b m =>
      injection h with h1 h2
      have : (a : Int) = b := V.int.inj h1
      rw [ih h2, show a = b by omega]
theorem inV_nv (n : Nat) (l : List Nat) : inV (.int (n : Int)) (nv l) = decide (n ∈ l) := by
  induction l with
  | nil => rfl
  | cons a r ih =>
    show ((a : Int) == (n : Int) || inV (.int (n : Int)) (nv r)) = _
    rw [ih]
    by_cases e : a = n
    · subst e; simp
    · have : ¬ n = a := fun h => e h.symm
      simp [this]; omega
theorem dec_int (n x : Nat) : decide (V.int (n : Int) = V.int (x : Int)) = decide (n = x) := by
  by_cases h : n = x
  · subst h; simp
  · rw [decide_eq_false h, decide_eq_false fun e => h (by have := V.int.inj e; omega)]
theorem nat_half (n : Nat) : (n : Int) / 2 = ((n / 2 : Nat) : Int) := by omega
theorem flat_nv (l : List Nat) : (nv l).all flatV = true := by
  rw [List.all_eq_true]
  intro x hx
  obtain ⟨n, _, rfl⟩ := List.mem_map.mp hx
  rfl
section
variable {K : PySem.W.Frag} {H : Hp} {Q : VK} {p p2 : Addr} {xs ys : List V}
/-- n in numbers, n not in numbers -/
theorem g_inN {l : List Nat} {n : Nat} (h : SqL K H p (nv l)) (q : Q (.bl (decide (n ∈ l))) H) : rIn K false (.int (n : Int)) (.ref p) H Q := ⟨p, _, rfl, .inl h, rfl, flat_nv l, by rw [inV_nv]; exact q⟩
theorem g_ninN {l : List Nat} {n : Nat} (h : SqL K H p (nv l)) (q : Q (.bl (!decide (n ∈ l))) H) : rIn K true (.int (n : Int)) (.ref p) H Q := ⟨p, _, rfl, .inl h, rfl, flat_nv l, by rw [inV_nv]; exact q⟩
/-- xs + ys -/
theorem g_cat (h1 : H p = some (.lst xs)) (h2 : H p2 = some (.lst ys)) (hz : xs.length + ys.length ≤ 100000) (q : ∀ l, H l = none → Q (.ref l) (upd H l (.lst (xs ++ ys)))) : rCat (.ref p) (.ref p2) H Q := ⟨p, p2, xs, ys, rfl, rfl, h1, h2, sz_le hz, q⟩
/-- xs * n -/
theorem g_rep {k : Int} (h : H p = some (.lst xs)) (h1 : 0 ≤ k) (h2 : k ≤ 100000) (hz : xs.length * k.toNat ≤ 100000) (q : ∀ l, H l = none → Q (.ref l) (upd H l (.lst (List.replicate k.toNat xs).flatten))) : rRep (.ref p) (.int k) H Q := ⟨p, k, xs, rfl, rfl, h, by omega, by omega, sz_le hz, q⟩
end
/-- [n for n in numbers if ..], a test that makes nothing -/
theorem f_lcFiltN {K : PySem.W.Frag} {σ : L2.St} {H : Hp} {Q : VK} {p : Addr} {tt : TT} {vs : List Nat} {j : Nat} {ns : List Nat} (hS : SqL K H p (nv ns)) (hz : ns.length ≤ 90000) (ok : Nat → Bool) (hw : ∀ x, wipe ((wipe σ vs).set j (some x)) vs = wipe σ vs) (hj : ∀ x, ((wipe σ vs).set j (some x))[j]? = some (some x))
    (ht : ∀ (i : Nat) (n : Nat) H' (Q' : Bool → Hp → Prop), ns[i]? = some n → Same H H' → Q' (ok n) H' → tt ((wipe σ vs).set j (some (.int (n : Int)))) H' Q') (hd : ∀ D, H D = none → Q (.ref D) (upd H D (.lst (nv (ns.filter ok))))) :
    ∃ a, V.ref p = .ref a ∧ (∃ xs, SqL K H a xs) ∧ tLcK (gName j) tt (tVar j) vs σ Q (Itl K a) H := by
  refine f_lcFilt (ns := ns.map fun n : Nat => (n : Int)) (by rw [← nv_int]; exact hS) (by rw [List.length_map]; exact hz) (fun z => ok z.toNat) hw hj (fun i n H' Q' hn s q => ?_) fun D nD => ?_
  · rw [List.getElem?_map] at hn
    cases e : ns[i]? with
    | none => rw [e] at hn; cases hn
    | some m =>
      rw [e] at hn
      have : (m : Int) = n := Option.some.inj hn
      subst this
      exact ht i m H' Q' e s q
  · have e : ((ns.map fun n : Nat => (n : Int)).filter fun z => ok z.toNat) = (ns.filter ok).map fun n : Nat => (n : Int) := by
      rw [List.filter_map]
      rfl
    rw [e, ← nv_int]
    exact hd D nD
end WL
set_option Elab.async false
set_option linter.all false
set_option maxRecDepth 100000
set_option maxHeartbeats 4000000
namespace K22
open PySem PySem.Spec PyProof.Rows L2 WL
def topS (i : Nat) : Stmt := PySem.Challenge.pw_gatesworn_k22_tables_of_cuts.main.body.getD i (.Pass ⟨0, 0, 0, 0⟩)
abbrev s_TooWide___init__ : Stmt := inClass (topS 4) 0
theorem nsc_TooWide : NdefX.NScope ["self", "count", "limit", "__class__"] ["self", "count", "limit"] ["__class__"] (defScope s_TooWide___init__) := NdefX.nscope_by (by decide +kernel)
def ok_TooWide (ws : List V) : Prop := ∃ v0 : Int, ∃ v1 : Int, ws = [V.int v0, V.int v1] ∧ v0.natAbs.log2 < 1920 ∧ v1.natAbs.log2 < 1920
def fs_TooWide (ws : List V) : List (Str × V) := match ws with
  | [v0, v1] => [("limit", v1), ("count", v0)]
  | _ => []
abbrev s_NotACut___init__ : Stmt := inClass (topS 5) 0
theorem nsc_NotACut : NdefX.NScope ["self", "node", "__class__"] ["self", "node"] ["__class__"] (defScope s_NotACut___init__) := NdefX.nscope_by (by decide +kernel)
def ok_NotACut (ws : List V) : Prop := ∃ v0 : Int, ws = [V.int v0] ∧ v0.natAbs.log2 < 1920
def fs_NotACut (ws : List V) : List (Str × V) := match ws with
  | [v0] => [("node", v0)]
  | _ => []
abbrev s_input_bits : Stmt := topS 7
theorem sc_input_bits : FnScope ["graph", "_", "width"] ["graph"] (defScope s_input_bits) := ⟨rfl, rfl, rfl, by decide +kernel, rfl, by decide +kernel, by decide +kernel⟩
abbrev s_first_and : Stmt := topS 8
theorem sc_first_and : FnScope ["graph"] ["graph"] (defScope s_first_and) := ⟨rfl, rfl, rfl, by decide +kernel, rfl, by decide +kernel, by decide +kernel⟩
abbrev s_Graph___init__ : Stmt := inClass (topS 9) 0
theorem sc_Graph___init__ : FnScope ["self", "inputs", "regs", "ands", "outputs", "name", "literals"] ["self", "inputs", "regs", "ands", "outputs"] (defScope s_Graph___init__) := ⟨rfl, rfl, rfl, by decide +kernel, rfl, by decide +kernel, by decide +kernel⟩
abbrev s_Graph_inputs : Stmt := inClass (topS 9) 1
theorem sc_Graph_inputs : FnScope ["self"] ["self"] (defScope s_Graph_inputs) := ⟨rfl, rfl, rfl, by decide +kernel, rfl, by decide +kernel, by decide +kernel⟩
abbrev s_Graph_regs : Stmt := inClass (topS 9) 2
theorem sc_Graph_regs : FnScope ["self"] ["self"] (defScope s_Graph_regs) := ⟨rfl, rfl, rfl, by decide +kernel, rfl, by decide +kernel, by decide +kernel⟩
abbrev s_Graph_ands : Stmt := inClass (topS 9) 3
theorem sc_Graph_ands : FnScope ["self"] ["self"] (defScope s_Graph_ands) := ⟨rfl, rfl, rfl, by decide +kernel, rfl, by decide +kernel, by decide +kernel⟩
abbrev s_Graph_outputs : Stmt := inClass (topS 9) 4
theorem sc_Graph_outputs : FnScope ["self", "name", "literals"] ["self"] (defScope s_Graph_outputs) := ⟨rfl, rfl, rfl, by decide +kernel, rfl, by decide +kernel, by decide +kernel⟩
abbrev s_full_table : Stmt := topS 12
theorem sc_full_table : FnScope ["count"] ["count"] (defScope s_full_table) := ⟨rfl, rfl, rfl, by decide +kernel, rfl, by decide +kernel, by decide +kernel⟩
abbrev s_variable : Stmt := topS 13
theorem sc_variable : FnScope ["i", "count", "size", "table", "k"] ["i", "count"] (defScope s_variable) := ⟨rfl, rfl, rfl, by decide +kernel, rfl, by decide +kernel, by decide +kernel⟩
abbrev s_literal_table : Stmt := topS 14
theorem sc_literal_table : FnScope ["tables", "literal", "full", "table"] ["tables", "literal", "full"] (defScope s_literal_table) := ⟨rfl, rfl, rfl, by decide +kernel, rfl, by decide +kernel, by decide +kernel⟩
abbrev s_cone_of : Stmt := topS 15
theorem sc_cone_of : FnScope ["graph", "node", "stops", "first", "pairs", "met", "waiting", "at", "x", "y", "cone"] ["graph", "node", "stops"] (defScope s_cone_of) := ⟨rfl, rfl, rfl, by decide +kernel, rfl, by decide +kernel, by decide +kernel⟩
abbrev s_leaves_of : Stmt := topS 16
theorem sc_leaves_of : FnScope ["graph", "literal"] ["graph", "literal"] (defScope s_leaves_of) := ⟨rfl, rfl, rfl, by decide +kernel, rfl, by decide +kernel, by decide +kernel⟩
abbrev s_table_of : Stmt := topS 17
theorem sc_table_of : FnScope ["graph", "literal", "leaves", "count", "tables", "i", "leaf", "inner", "missed", "first", "pairs", "full", "node", "x", "y"] ["graph", "literal", "leaves"] (defScope s_table_of) := ⟨rfl, rfl, rfl, by decide +kernel, rfl, by decide +kernel, by decide +kernel⟩
abbrev s__law_is_number : Stmt := topS 19
theorem sc__law_is_number : FnScope ["thing"] ["thing"] (defScope s__law_is_number) := ⟨rfl, rfl, rfl, by decide +kernel, rfl, by decide +kernel, by decide +kernel⟩
abbrev s__law_bag : Stmt := topS 20
theorem sc__law_bag : FnScope ["script", "great", "mixed", "cell"] ["script"] (defScope s__law_bag) := ⟨rfl, rfl, rfl, by decide +kernel, rfl, by decide +kernel, by decide +kernel⟩
abbrev s__law_draw : Stmt := topS 21
theorem sc__law_draw : FnScope ["bag", "size", "drawn", "one", "two", "three"] ["bag", "size"] (defScope s__law_draw) := ⟨rfl, rfl, rfl, by decide +kernel, rfl, by decide +kernel, by decide +kernel⟩
abbrev s__law_known : Stmt := topS 22
theorem sc__law_known : FnScope ["made", "x", "y", "low", "high"] ["made", "x", "y"] (defScope s__law_known) := ⟨rfl, rfl, rfl, by decide +kernel, rfl, by decide +kernel, by decide +kernel⟩
abbrev s__law_both : Stmt := topS 23
theorem sc__law_both : FnScope ["made", "x", "y", "known", "at", "literal"] ["made", "x", "y"] (defScope s__law_both) := ⟨rfl, rfl, rfl, by decide +kernel, rfl, by decide +kernel, by decide +kernel⟩
abbrev s__law_size : Stmt := topS 24
theorem sc__law_size : FnScope ["made"] ["made"] (defScope s__law_size) := ⟨rfl, rfl, rfl, by decide +kernel, rfl, by decide +kernel, by decide +kernel⟩
abbrev s__law_literal : Stmt := topS 25
theorem sc__law_literal : FnScope ["bag", "made", "size"] ["bag", "made"] (defScope s__law_literal) := ⟨rfl, rfl, rfl, by decide +kernel, rfl, by decide +kernel, by decide +kernel⟩
abbrev s__law_chain : Stmt := topS 26
theorem sc__law_chain : FnScope ["bag", "made", "chain", "node", "x", "y", "one", "two"] ["bag", "made"] (defScope s__law_chain) := ⟨rfl, rfl, rfl, by decide +kernel, rfl, by decide +kernel, by decide +kernel⟩
abbrev s__law_world : Stmt := topS 27
theorem sc__law_world : FnScope ["bag", "wide", "bits", "count", "made", "many", "turn", "x", "y", "least", "width", "k"] ["bag", "wide"] (defScope s__law_world) := ⟨rfl, rfl, rfl, by decide +kernel, rfl, by decide +kernel, by decide +kernel⟩
abbrev s__law_shuffled : Stmt := topS 28
theorem sc__law_shuffled : FnScope ["bag", "items", "left", "out", "turn", "at"] ["bag", "items"] (defScope s__law_shuffled) := ⟨rfl, rfl, rfl, by decide +kernel, rfl, by decide +kernel, by decide +kernel⟩
abbrev s__law_cut : Stmt := topS 29
theorem sc__law_cut : FnScope ["bag", "made", "node", "leaves", "turn", "inner", "at", "pair", "part", "extra", "below"] ["bag", "made", "node"] (defScope s__law_cut) := ⟨rfl, rfl, rfl, by decide +kernel, rfl, by decide +kernel, by decide +kernel⟩
abbrev s__law_wide_cut : Stmt := topS 30
theorem sc__law_wide_cut : FnScope ["bag", "made", "total", "target", "begin", "leaves", "turn", "extra", "at", "node"] ["bag", "made"] (defScope s__law_wide_cut) := ⟨rfl, rfl, rfl, by decide +kernel, rfl, by decide +kernel, by decide +kernel⟩
abbrev s__law_met : Stmt := topS 31
theorem sc__law_met : FnScope ["made", "node", "leaves", "reached", "met", "turn", "below", "pair"] ["made", "node", "leaves"] (defScope s__law_met) := ⟨rfl, rfl, rfl, by decide +kernel, rfl, by decide +kernel, by decide +kernel⟩
abbrev s__law_value : Stmt := topS 32
theorem sc__law_value : FnScope ["made", "chosen", "literal", "values", "x", "y", "value", "node"] ["made", "chosen", "literal"] (defScope s__law_value) := ⟨rfl, rfl, rfl, by decide +kernel, rfl, by decide +kernel, by decide +kernel⟩
abbrev s__law_asked : Stmt := topS 33
theorem sc__law_asked : FnScope ["graph", "literal", "leaves", "e", "alone"] ["graph", "literal", "leaves"] (defScope s__law_asked) := ⟨rfl, rfl, rfl, by decide +kernel, rfl, by decide +kernel, by decide +kernel⟩
abbrev s__law_choices : Stmt := topS 34
theorem sc__law_choices : FnScope ["bag", "count", "choice", "turn"] ["bag", "count"] (defScope s__law_choices) := ⟨rfl, rfl, rfl, by decide +kernel, rfl, by decide +kernel, by decide +kernel⟩
abbrev s__law_right : Stmt := topS 35
theorem sc__law_right : FnScope ["bag", "graph", "made", "literal", "leaves", "given", "told", "count", "met", "choice", "chosen", "place"] ["bag", "graph", "made", "literal", "leaves"] (defScope s__law_right) := ⟨rfl, rfl, rfl, by decide +kernel, rfl, by decide +kernel, by decide +kernel⟩
abbrev s__law_leaves_right : Stmt := topS 36
theorem sc__law_leaves_right : FnScope ["graph", "made", "literal", "due", "told", "node"] ["graph", "made", "literal"] (defScope s__law_leaves_right) := ⟨rfl, rfl, rfl, by decide +kernel, rfl, by decide +kernel, by decide +kernel⟩
abbrev s__law_stays : Stmt := topS 37
theorem sc__law_stays : FnScope ["graph", "made"] ["graph", "made"] (defScope s__law_stays) := ⟨rfl, rfl, rfl, by decide +kernel, rfl, by decide +kernel, by decide +kernel⟩
abbrev s_law : Stmt := topS 38
theorem sc_law : FnScope ["script", "bag", "wide", "made", "outputs", "graph", "turn", "literal", "leaves", "row"] ["script"] (defScope s_law) := ⟨rfl, rfl, rfl, by decide +kernel, rfl, by decide +kernel, by decide +kernel⟩
structure Txt (K : PySem.W.Frag) (mg : Str → Option Value) (dA : Nat → Addr) : Prop where
  b_ValueError : mg "ValueError" = none
  b_bool : mg "bool" = none
  b_enumerate : mg "enumerate" = none
  b_int : mg "int" = none
  b_isinstance : mg "isinstance" = none
  b_len : mg "len" = none
  b_list : mg "list" = none
  b_max : mg "max" = none
  b_min : mg "min" = none
  b_range : mg "range" = none
  b_sorted : mg "sorted" = none
  b_sum : mg "sum" = none
  g_MOST_LEAVES : ∃ u, mg "MOST_LEAVES" = some u ∧ RelV (V.int (16)) u
  gx_Graph : mg "Graph" = some (.ref (dA 200))
  gc_Graph : ∃ u, mg "Graph" = some u ∧ RelV (V.ref (dA 200)) u
  cl_Graph : Cls K (dA 200)
  ic_Graph : C8.InsC K (dA 200)
  ek_Graph : WOwn.EqK K (dA 200)
  kj_Graph : PySem.W.isClsIn K (dA 200) = true
  ky_Graph : PySem.W.typeIn K (.ref (dA 200)) = some (.type "type")
  na_Graph__inputs : NoAttr K (dA 200) "_inputs"
  na_Graph__regs : NoAttr K (dA 200) "_regs"
  na_Graph__ands : NoAttr K (dA 200) "_ands"
  na_Graph__outputs : NoAttr K (dA 200) "_outputs"
  gx_TooWide : mg "TooWide" = some (.ref (dA 100))
  gc_TooWide : ∃ u, mg "TooWide" = some u ∧ RelV (V.ref (dA 100)) u
  gx_NotACut : mg "NotACut" = some (.ref (dA 101))
  gc_NotACut : ∃ u, mg "NotACut" = some u ∧ RelV (V.ref (dA 101)) u
  gx_TooLarge : mg "TooLarge" = some (.ref (dA 102))
  gc_TooLarge : ∃ u, mg "TooLarge" = some u ∧ RelV (V.ref (dA 102)) u
  gx_GatesError : mg "GatesError" = some (.ref (dA 103))
  gc_GatesError : ∃ u, mg "GatesError" = some u ∧ RelV (V.ref (dA 103)) u
  xf_TooWide : XfC K (dA 100)
  xe_TooWide : L2.ExcC K (dA 100)
  xo_TooWide : OexC K (dA 100)
  xn_TooWide_count : PySem.W.findIn K (.ref (dA 100)) "count" = some none
  xn_TooWide_limit : PySem.W.findIn K (.ref (dA 100)) "limit" = some none
  xf_NotACut : XfC K (dA 101)
  xe_NotACut : L2.ExcC K (dA 101)
  xo_NotACut : OexC K (dA 101)
  xn_NotACut_node : PySem.W.findIn K (.ref (dA 101)) "node" = some none
  ki_TooWide_NotACut : PySem.W.kitOne K (.ref (dA 100)) (.ref (dA 101)) = some false
  ki_TooWide_TooLarge : PySem.W.kitOne K (.ref (dA 100)) (.ref (dA 102)) = some false
  ki_TooWide_GatesError : PySem.W.kitOne K (.ref (dA 100)) (.ref (dA 103)) = some true
  ki_TooWide_ValueError : PySem.W.kitOne K (.ref (dA 100)) (.type "ValueError") = some true
  ki_NotACut_TooLarge : PySem.W.kitOne K (.ref (dA 101)) (.ref (dA 102)) = some false
  ki_NotACut_GatesError : PySem.W.kitOne K (.ref (dA 101)) (.ref (dA 103)) = some true
  ki_NotACut_ValueError : PySem.W.kitOne K (.ref (dA 101)) (.type "ValueError") = some true
  em_TooWide_TooWide : PySem.W.exmOne K (.ref (dA 100)) (.ref (dA 100)) = some true
  em_NotACut_TooWide : PySem.W.exmOne K (.ref (dA 101)) (.ref (dA 100)) = some false
  em_NotACut_NotACut : PySem.W.exmOne K (.ref (dA 101)) (.ref (dA 101)) = some true

end K22
set_option Elab.async false
set_option linter.all false
namespace K22
/-! tables of truth as bits: plain laws -/
theorem bit_top {i c : Nat} (hc : c < 2 ^ (i + 1)) : c.testBit i = decide (2 ^ i ≤ c) := by
  rw [Nat.testBit_eq_decide_div_mod_eq]
  have hp : 0 < 2 ^ i := Nat.pow_pos (by decide)
  rw [Nat.pow_succ] at hc
  by_cases h : 2 ^ i ≤ c
  · have : c / 2 ^ i = 1 := by
      rw [Nat.div_eq_iff hp]
      omega
    rw [this]
    simp [h]
  · have : c / 2 ^ i = 0 := Nat.div_eq_of_lt (by omega)
    rw [this]
    simp [h]
theorem var0 {i c : Nat} (hc : c < 2 ^ (i + 1)) : ((2 ^ 2 ^ i - 1) * 2 ^ 2 ^ i).testBit c = c.testBit i := by
  rw [Nat.testBit_mul_two_pow, Nat.testBit_two_pow_sub_one, bit_top hc]
  rw [Nat.pow_succ] at hc
  by_cases h : 2 ^ i ≤ c
  · simp [h]; omega
  · simp [h]
theorem var0_lt (i : Nat) : (2 ^ 2 ^ i - 1) * 2 ^ 2 ^ i < 2 ^ 2 ^ (i + 1) := by
  have hp : 0 < 2 ^ 2 ^ i := Nat.pow_pos (by decide)
  rw [Nat.pow_succ 2 i, Nat.mul_two, Nat.pow_add]
  exact (Nat.mul_lt_mul_right hp).mpr (by omega)
theorem varS {i k c t : Nat} (hik : i < k) (ht : t < 2 ^ 2 ^ k) (h : ∀ c, c < 2 ^ k → t.testBit c = c.testBit i) (hc : c < 2 ^ (k + 1)) : (t ||| t * 2 ^ 2 ^ k).testBit c = c.testBit i := by
  rw [Nat.testBit_or, Nat.testBit_mul_two_pow]
  rw [Nat.pow_succ] at hc
  by_cases hk : 2 ^ k ≤ c
  · have h1 : t.testBit c = false := Nat.testBit_lt_two_pow (Nat.lt_of_lt_of_le ht (Nat.pow_le_pow_right (by decide) hk))
    have h2 : (c - 2 ^ k).testBit i = c.testBit i := by
      have e : c = 2 ^ k + (c - 2 ^ k) := by omega
      conv => rhs; rw [e]
      rw [Nat.testBit_two_pow_add_gt hik]
    rw [h1, h (c - 2 ^ k) (by omega), h2]
    simp [hk]
  · rw [h c (by omega)]
    simp [hk]
theorem varS_lt {k t : Nat} (ht : t < 2 ^ 2 ^ k) : t ||| t * 2 ^ 2 ^ k < 2 ^ 2 ^ (k + 1) := by
  have hp : 0 < 2 ^ 2 ^ k := Nat.pow_pos (by decide)
  have e : (2 : Nat) ^ 2 ^ (k + 1) = 2 ^ 2 ^ k * 2 ^ 2 ^ k := by rw [Nat.pow_succ 2 k, Nat.mul_two, Nat.pow_add]
  refine Nat.or_lt_two_pow ?_ ?_
  · rw [e]; exact Nat.lt_of_lt_of_le ht (Nat.le_mul_of_pos_right _ hp)
  · rw [e]; exact (Nat.mul_lt_mul_right hp).mpr ht
end K22
set_option Elab.async false
set_option linter.all false
namespace K22
/-! what a walk down from a node reaches: plain laws -/
inductive Rch (kid : Nat → List Nat) (stop : Nat → Bool) (top : Nat) : Nat → Prop
  | top (h : stop top = false) : Rch kid stop top top
  | step {x y : Nat} (r : Rch kid stop top x) (k : y ∈ kid x) (h : stop y = false) : Rch kid stop top y
/-- the walk's state: what it met, what waits -/
structure Dfs (kid : Nat → List Nat) (stop : Nat → Bool) (top : Nat) (met stack : List Nat) : Prop where
  sound : ∀ x ∈ met, Rch kid stop top x
  wait : ∀ x ∈ stack, x = top ∨ ∃ p, Rch kid stop top p ∧ x ∈ kid p
  done : ∀ x ∈ met, ∀ y ∈ kid x, y ∈ met ∨ stop y = true ∨ y ∈ stack
  root : top ∈ met ∨ stop top = true ∨ top ∈ stack
variable {kid : Nat → List Nat} {stop : Nat → Bool} {top : Nat} {met stack : List Nat} {x : Nat}
theorem Dfs.start : Dfs kid stop top [] [top] := ⟨fun _ h => (by cases h), fun x h => .inl (by simpa using h), fun _ h => (by cases h), .inr (.inr (by simp))⟩
/-- the last that waits is met already, or stopped -/
theorem Dfs.skip (d : Dfs kid stop top met (stack ++ [x])) (h : x ∈ met ∨ stop x = true) : Dfs kid stop top met stack := by
  have out : ∀ y, y ∈ met ∨ stop y = true ∨ y ∈ stack ++ [x] → y ∈ met ∨ stop y = true ∨ y ∈ stack := by
    intro y hy
    rcases hy with hy | hy | hy
    · exact .inl hy
    · exact .inr (.inl hy)
    · rcases List.mem_append.mp hy with hy | hy
      · exact .inr (.inr hy)
      · rw [List.mem_singleton.mp hy]
        rcases h with h | h
        · exact .inl h
        · exact .inr (.inl h)
  exact ⟨d.sound, fun y hy => d.wait y (List.mem_append_left _ hy), fun a ha y hy => out y (d.done a ha y hy), out top d.root⟩
theorem Dfs.rch (d : Dfs kid stop top met (stack ++ [x])) (h : stop x = false) : Rch kid stop top x := by
  rcases d.wait x (List.mem_append_right _ (List.mem_singleton.mpr rfl)) with rfl | ⟨p, hp, hk⟩
  · exact .top h
  · exact .step hp hk h
/-- the last that waits is new: it is met, its children wait -/
theorem Dfs.meet (d : Dfs kid stop top met (stack ++ [x])) (h : stop x = false) : Dfs kid stop top (met ++ [x]) (stack ++ kid x) := by
  have hx := d.rch h
  have out : ∀ y, y ∈ met ∨ stop y = true ∨ y ∈ stack ++ [x] → y ∈ met ++ [x] ∨ stop y = true ∨ y ∈ stack ++ kid x := by
    intro y hy
    rcases hy with hy | hy | hy
    · exact .inl (List.mem_append_left _ hy)
    · exact .inr (.inl hy)
    · rcases List.mem_append.mp hy with hy | hy
      · exact .inr (.inr (List.mem_append_left _ hy))
      · exact .inl (List.mem_append_right _ hy)
  refine ⟨fun y hy => ?_, fun y hy => ?_, fun a ha y hy => ?_, out top d.root⟩
  · rcases List.mem_append.mp hy with hy | hy
    · exact d.sound y hy
    · rw [List.mem_singleton.mp hy]; exact hx
  · rcases List.mem_append.mp hy with hy | hy
    · exact d.wait y (List.mem_append_left _ hy)
    · exact .inr ⟨x, hx, hy⟩
  · rcases List.mem_append.mp ha with ha | ha
    · exact out y (d.done a ha y hy)
    · rw [List.mem_singleton.mp ha] at hy
      exact .inr (.inr (List.mem_append_right _ hy))
/-- nothing waits: what it met is what is reached -/
theorem Dfs.fin (d : Dfs kid stop top met []) (x : Nat) : x ∈ met ↔ Rch kid stop top x := by
  refine ⟨d.sound x, fun r => ?_⟩
  induction r with
  | top h =>
    rcases d.root with q | q | q
    · exact q
    · rw [h] at q; cases q
    · cases q
  | step r k h ih =>
    rcases d.done _ ih _ k with q | q | q
    · exact q
    · rw [h] at q; cases q
    · cases q
theorem Rch.le (hk : ∀ x, ∀ y ∈ kid x, y < x) {x : Nat} (r : Rch kid stop top x) : x ≤ top := by
  induction r with
  | top h => exact Nat.le_refl _
  | step r k h ih => have := hk _ _ k; omega
/-- from above: reached is the top, or a child of one reached above -/
theorem Rch.from (hk : ∀ x, ∀ y ∈ kid x, y < x) {x : Nat} : Rch kid stop top x ↔ stop x = false ∧ (x = top ∨ ∃ p, x < p ∧ Rch kid stop top p ∧ x ∈ kid p) := by
  constructor
  · intro r
    cases r with
    | top h => exact ⟨h, .inl rfl⟩
    | step r k h => exact ⟨h, .inr ⟨_, hk _ _ k, r, k⟩⟩
  · rintro ⟨h, rfl | ⟨p, _, r, k⟩⟩
    · exact .top h
    · exact .step r k h
end K22
set_option Elab.async false
set_option linter.all false
namespace K22
/-! lists of numbers: unlike ones below a bound, sorted ones -/
theorem len_split (l : List Nat) (f : Nat → Bool) : l.length = (l.filter f).length + (l.filter fun x => !f x).length := by
  induction l with
  | nil => rfl
  | cons a r ih =>
    cases e : f a <;> simp [List.filter_cons, e] <;> omega
theorem nodup_len : ∀ (n : Nat) (l : List Nat), l.Nodup → (∀ x ∈ l, x < n) → l.length ≤ n
  | 0, l, _, h => by
    cases l with
    | nil => exact Nat.le_refl _
    | cons a r => exact absurd (h a List.mem_cons_self) (by omega)
  | n + 1, l, hn, h => by
    have h1 := nodup_len n (l.filter fun x => x != n) (hn.sublist List.filter_sublist) fun x hx => by
      have := h x (List.mem_filter.mp hx).1
      have h2 := (List.mem_filter.mp hx).2
      have : x ≠ n := by simpa using h2
      omega
    have h2 : l.length ≤ (l.filter fun x => x != n).length + 1 := by
      have e : l.length = (l.filter fun x => x != n).length + (l.filter fun x => !(x != n)).length := by
        exact len_split l fun x => x != n
      have h3 : (l.filter fun x => !(x != n)).length ≤ 1 := by
        have hs : (l.filter fun x => !(x != n)).Nodup := hn.sublist List.filter_sublist
        generalize hg : (l.filter fun x => !(x != n)) = m at hs
        have hm : ∀ x ∈ m, x = n := fun x hx => by
          rw [← hg] at hx
          have := (List.mem_filter.mp hx).2
          simpa using this
        cases m with
        | nil => simp
        | cons a r =>
          cases r with
          | nil => simp
          | cons b r =>
            have ea := hm a List.mem_cons_self
            have eb := hm b (List.mem_cons_of_mem _ List.mem_cons_self)
            have := (List.nodup_cons.mp hs).1
            rw [ea, eb] at this
            exact absurd List.mem_cons_self this
      omega
    omega
/-- strictly ascending, with the same members: the same list -/
theorem asc_ext : ∀ {a b : List Nat}, a.Pairwise (· < ·) → b.Pairwise (· < ·) → (∀ x, x ∈ a ↔ x ∈ b) → a = b
  | [], [], _, _, _ => rfl
  | [], y :: b, _, _, h => by have := (h y).mpr List.mem_cons_self; cases this
  | x :: a, [], _, _, h => by have := (h x).mp List.mem_cons_self; cases this
  | x :: a, y :: b, ha, hb, h => by
    have ha' := List.pairwise_cons.mp ha
    have hb' := List.pairwise_cons.mp hb
    have e : x = y := by
      have h1 := (h x).mp List.mem_cons_self
      have h2 := (h y).mpr List.mem_cons_self
      rcases List.mem_cons.mp h1 with h1 | h1
      · exact h1
      · rcases List.mem_cons.mp h2 with h2 | h2
        · exact h2.symm
        · have := ha'.1 y h2; have := hb'.1 x h1; omega
    subst e
    have := asc_ext ha'.2 hb'.2 fun z => by
      constructor
      · intro hz
        have h1 := (h z).mp (List.mem_cons_of_mem _ hz)
        rcases List.mem_cons.mp h1 with h1 | h1
        · have := ha'.1 z hz; omega
        · exact h1
      · intro hz
        have h1 := (h z).mpr (List.mem_cons_of_mem _ hz)
        rcases List.mem_cons.mp h1 with h1 | h1
        · have := hb'.1 z hz; omega
        · exact h1
    rw [this]
/-- a sorted arrangement of unlike ones is strictly ascending -/
theorem asc_of {ks : List Nat} {ys : List Int} (hp : ys.Perm (ks.map fun k : Nat => (k : Int))) (hs : ys.Pairwise (· ≤ ·)) (hn : ks.Nodup) : ∃ zs : List Nat, ys = zs.map (fun k : Nat => (k : Int)) ∧ zs.Pairwise (· < ·) ∧ ∀ x, x ∈ zs ↔ x ∈ ks := by
  have hm : ∀ y ∈ ys, ∃ k ∈ ks, y = (k : Int) := fun y hy => by
    obtain ⟨k, hk, e⟩ := List.mem_map.mp (hp.mem_iff.mp hy)
    exact ⟨k, hk, e.symm⟩
  refine ⟨ys.map Int.toNat, ?_, ?_, fun x => ?_⟩
  · rw [List.map_map]
    conv => lhs; rw [← List.map_id ys]
    refine List.map_congr_left fun y hy => ?_
    obtain ⟨k, _, rfl⟩ := hm y hy
    simp
  · have hny : ys.Nodup := hp.nodup_iff.mpr (List.Pairwise.map _ (fun a b h => by omega) hn)
    have h2 : ys.Pairwise (· < ·) := by
      have := hs.and hny
      refine this.imp fun {a b} h => ?_
      omega
    rw [List.pairwise_map]
    refine h2.imp_of_mem fun {a b} ha hb h => ?_
    obtain ⟨k, _, rfl⟩ := hm a ha
    obtain ⟨j, _, rfl⟩ := hm b hb
    omega
  · constructor
    · intro hx
      obtain ⟨y, hy, rfl⟩ := List.mem_map.mp hx
      obtain ⟨k, hk, rfl⟩ := hm y hy
      simpa using hk
    · intro hx
      refine List.mem_map.mpr ⟨(x : Int), hp.mem_iff.mpr (List.mem_map.mpr ⟨x, hx, rfl⟩), by simp⟩
/-- the children of a node -/
def kidF (b : Nat) (ps : List (Nat × Nat)) (n : Nat) : List Nat := if n < b then [] else match ps[n - b]? with
  | some t => [t.1 / 2, t.2 / 2]
  | none => []
def PrOk (b : Nat) (ps : List (Nat × Nat)) : Prop := ∀ k t, ps[k]? = some t → t.1 / 2 < b + k ∧ t.2 / 2 < b + k
theorem kidF_lt {b : Nat} {ps : List (Nat × Nat)} (h : PrOk b ps) : ∀ x, ∀ y ∈ kidF b ps x, y < x := by
  intro x y hy
  unfold kidF at hy
  split at hy
  · cases hy
  · split at hy
    · rename_i hb t ht
      have := h _ _ ht
      have e : b + (x - b) = x := by omega
      rw [e] at this
      rcases List.mem_cons.mp hy with rfl | hy
      · exact this.1
      · rw [List.mem_singleton.mp hy]; exact this.2
    · cases hy
theorem kidF_lo {b : Nat} {ps : List (Nat × Nat)} {n : Nat} (h : n < b) : kidF b ps n = [] := if_pos h
theorem kidF_hi {b : Nat} {ps : List (Nat × Nat)} {n : Nat} {t : Nat × Nat} (h : b ≤ n) (ht : ps[n - b]? = some t) : kidF b ps n = [t.1 / 2, t.2 / 2] := by
  unfold kidF
  rw [if_neg (by omega), ht]
theorem PrOk.nil {b : Nat} : PrOk b [] := fun k t h => by simp at h
theorem PrOk.snoc {b : Nat} {ps : List (Nat × Nat)} {t : Nat × Nat} (h : PrOk b ps) (h1 : t.1 / 2 < b + ps.length) (h2 : t.2 / 2 < b + ps.length) : PrOk b (ps ++ [t]) := fun k u hk => by
  by_cases hl : k < ps.length
  · rw [List.getElem?_append_left hl] at hk
    exact h k u hk
  · rw [List.getElem?_append_right (by omega)] at hk
    have hk0 : k - ps.length = 0 := by
      have := (List.getElem?_eq_some_iff.mp hk).1
      simp at this; omega
    rw [hk0] at hk
    have e : t = u := by simpa using hk
    subst e
    have : k = ps.length := by omega
    subst this
    exact ⟨h1, h2⟩
end K22
set_option Elab.async false
set_option linter.all false
namespace K22
/-! the values of nodes, some of them chosen: plain laws -/
def odd (L : Nat) : Bool := decide (L % 2 = 1)
def litV (vs : List Bool) (L : Nat) : Bool := vs.getD (L / 2) false != odd L
def vstep (ch : Nat → Option Bool) (vs : List Bool) (p : Nat × Nat) : List Bool := vs ++ [(ch vs.length).getD (litV vs p.1 && litV vs p.2)]
def vbase (ch : Nat → Option Bool) (b : Nat) : List Bool := (List.range b).map fun n => (ch n).getD false
def vals (ch : Nat → Option Bool) (b : Nat) (ps : List (Nat × Nat)) : List Bool := ps.foldl (vstep ch) (vbase ch b)
theorem vals_snoc {ch : Nat → Option Bool} {b : Nat} {ps : List (Nat × Nat)} {p : Nat × Nat} : vals ch b (ps ++ [p]) = vstep ch (vals ch b ps) p := by
  unfold vals
  rw [List.foldl_append]
  rfl
theorem vals_len {ch : Nat → Option Bool} {b : Nat} : ∀ n (ps : List (Nat × Nat)), ps.length = n → (vals ch b ps).length = b + ps.length
  | 0, ps, h => by
    have : ps = [] := List.length_eq_zero_iff.mp h
    subst this
    simp [vals, vbase]
  | n + 1, ps, h => by
    rcases List.eq_nil_or_concat ps with rfl | ⟨qs, p, rfl⟩
    · simp [vals, vbase]
    · rw [List.concat_eq_append] at h ⊢
      have hq : qs.length = n := by simp at h; omega
      rw [vals_snoc, vstep, List.length_append, vals_len n qs hq]
      simp; omega
def node (ch : Nat → Option Bool) (b : Nat) (ps : List (Nat × Nat)) (n : Nat) : Bool := (vals ch b ps).getD n false
def lit (ch : Nat → Option Bool) (b : Nat) (ps : List (Nat × Nat)) (L : Nat) : Bool := node ch b ps (L / 2) != odd L
theorem node_snoc {ch : Nat → Option Bool} {b : Nat} {ps : List (Nat × Nat)} {p : Nat × Nat} {n : Nat} (h : n < b + ps.length) : node ch b (ps ++ [p]) n = node ch b ps n := by
  unfold node
  rw [vals_snoc, vstep, List.getD_eq_getElem?_getD, List.getElem?_append_left (by rw [vals_len _ ps rfl]; exact h), List.getD_eq_getElem?_getD]
/-- a node's value, by where it stands -/
theorem node_lo {ch : Nat → Option Bool} {b : Nat} {n : Nat} (hn : n < b) : ∀ k (ps : List (Nat × Nat)), ps.length = k → node ch b ps n = (ch n).getD false
  | 0, ps, h => by
    have : ps = [] := List.length_eq_zero_iff.mp h
    subst this
    unfold node vals
    rw [List.foldl_nil, vbase, List.getD_eq_getElem?_getD, List.getElem?_map, List.getElem?_range hn]
    rfl
  | k + 1, ps, h => by
    rcases List.eq_nil_or_concat ps with rfl | ⟨qs, p, rfl⟩
    · simp at h
    · rw [List.concat_eq_append] at h ⊢
      rw [node_snoc (by omega)]
      exact node_lo hn k qs (by simp at h; omega)
theorem node_hi {ch : Nat → Option Bool} {b : Nat} : ∀ k (ps : List (Nat × Nat)), ps.length = k → PrOk b ps → ∀ (j : Nat) (t : Nat × Nat), ps[j]? = some t → node ch b ps (b + j) = (ch (b + j)).getD (lit ch b ps t.1 && lit ch b ps t.2)
  | 0, ps, h, _, j, t, hj => by
    have : ps = [] := List.length_eq_zero_iff.mp h
    subst this
    simp at hj
  | k + 1, ps, h, ok, j, t, hj => by
    rcases List.eq_nil_or_concat ps with rfl | ⟨qs, p, rfl⟩
    · simp at h
    · rw [List.concat_eq_append] at h hj ok ⊢
      have hq : qs.length = k := by simp at h; omega
      have hkt := ok j t hj
      have okq : PrOk b qs := fun i u hi => ok i u (by rw [List.getElem?_append_left (List.getElem?_eq_some_iff.mp hi).1]; exact hi)
      have hjl : j < qs.length + 1 := by have := (List.getElem?_eq_some_iff.mp hj).1; simpa using this
      have e1 : lit ch b (qs ++ [p]) t.1 = lit ch b qs t.1 := by unfold lit; rw [node_snoc (by omega)]
      have e2 : lit ch b (qs ++ [p]) t.2 = lit ch b qs t.2 := by unfold lit; rw [node_snoc (by omega)]
      rw [e1, e2]
      by_cases hl : j < qs.length
      · rw [node_snoc (by omega)]
        rw [List.getElem?_append_left hl] at hj
        exact node_hi k qs hq okq j t hj
      · have ej : j = qs.length := by omega
        subst ej
        rw [List.getElem?_append_right (Nat.le_refl _), Nat.sub_self] at hj
        have ep : p = t := by simpa using hj
        subst ep
        have hlen := vals_len (ch := ch) (b := b) _ qs rfl
        unfold node
        rw [vals_snoc, vstep, List.getD_eq_getElem?_getD, List.getElem?_append_right (by rw [hlen]; exact Nat.le_refl _), hlen, Nat.sub_self]
        rfl
/-- the table of a node: its bits are the values under the choices -/
def TabOf (n : Nat) (chs : Nat → Nat → Option Bool) (b : Nat) (ps : List (Nat × Nat)) (x t : Nat) : Prop := t < 2 ^ 2 ^ n ∧ ∀ c, c < 2 ^ n → t.testBit c = node (chs c) b ps x
/-- the choice c of the nodes of a list -/
def chosen (ls : List Nat) (c : Nat) (x : Nat) : Option Bool := (ls.idxOf? x).map fun i => c.testBit i
theorem chosen_none {ls : List Nat} {c x : Nat} (h : x ∉ ls) : chosen ls c x = none := by
  unfold chosen
  rw [List.idxOf?_eq_none_iff.mpr h]
  rfl
theorem chosen_some {ls : List Nat} {c x i : Nat} (hn : ls.Nodup) (h : ls[i]? = some x) : chosen ls c x = some (c.testBit i) := by
  unfold chosen
  obtain ⟨hi, e⟩ := List.getElem?_eq_some_iff.mp h
  have : ls.idxOf? x = some i := by
    rw [← e, List.idxOf?_eq_some_iff]
    refine ⟨hi, by simp, fun j hj => ?_⟩
    have := (List.nodup_iff_pairwise_ne.mp hn)
    rw [List.pairwise_iff_getElem] at this
    have := this j i (by omega) hi hj
    simpa using this
  rw [this]
  rfl
end K22
set_option Elab.async false
set_option linter.all false
namespace K22
/-! the sweep downwards: plain laws -/
structure MetI (kid : Nat → List Nat) (stop : Nat → Bool) (nd b i : Nat) (f : Nat → Bool) (lv : List Nat) : Prop where
  f : ∀ x, f x = true ↔ x = nd ∨ ∃ p, nd < p + i ∧ Rch kid stop nd p ∧ x ∈ kid p
  a : lv.Pairwise (· < ·)
  m : ∀ x, x ∈ lv ↔ Rch kid stop nd x ∧ nd < x + i ∧ x < b
section
variable {kid : Nat → List Nat} {stop : Nat → Bool} {nd b i : Nat} {f : Nat → Bool} {lv : List Nat}
theorem MetI.start (hk : ∀ x, ∀ y ∈ kid x, y < x) : MetI kid stop nd b 0 (fun x => decide (x = nd)) [] := by
  refine ⟨fun x => ?_, List.Pairwise.nil, fun x => ?_⟩
  · constructor
    · intro h; exact .inl (by simpa using h)
    · rintro (h | ⟨p, h, r, _⟩)
      · simpa using h
      · have := r.le hk; omega
  · constructor
    · intro h; cases h
    · rintro ⟨r, h, _⟩
      have := r.le hk; omega
theorem MetI.here (h : MetI kid stop nd b i f lv) (hk : ∀ x, ∀ y ∈ kid x, y < x) (hi : i < nd) : (f (nd - i) && !stop (nd - i)) = true ↔ Rch kid stop nd (nd - i) := by
  rw [Rch.from hk, Bool.and_eq_true, h.f]
  constructor
  · rintro ⟨h1, h2⟩
    refine ⟨by simpa using h2, ?_⟩
    rcases h1 with h1 | ⟨p, hp, r, k⟩
    · exact .inl h1
    · exact .inr ⟨p, by omega, r, k⟩
  · rintro ⟨h1, h2⟩
    refine ⟨?_, by simpa using h1⟩
    rcases h2 with h2 | ⟨p, hp, r, k⟩
    · exact .inl h2
    · exact .inr ⟨p, by omega, r, k⟩
theorem MetI.no (h : MetI kid stop nd b i f lv) (hi : i < nd) (n : ¬ Rch kid stop nd (nd - i)) : MetI kid stop nd b (i + 1) f lv := by
  refine ⟨fun x => ?_, h.a, fun x => ?_⟩
  · rw [h.f]
    constructor
    · rintro (h1 | ⟨p, hp, r, k⟩)
      · exact .inl h1
      · exact .inr ⟨p, by omega, r, k⟩
    · rintro (h1 | ⟨p, hp, r, k⟩)
      · exact .inl h1
      · refine .inr ⟨p, ?_, r, k⟩
        by_cases e : p = nd - i
        · subst e; exact absurd r n
        · omega
  · rw [h.m]
    constructor
    · rintro ⟨r, h1, h2⟩; exact ⟨r, by omega, h2⟩
    · rintro ⟨r, h1, h2⟩
      refine ⟨r, ?_, h2⟩
      by_cases e : x = nd - i
      · subst e; exact absurd r n
      · omega
theorem MetI.low (h : MetI kid stop nd b i f lv) (hi : i < nd) (y : Rch kid stop nd (nd - i)) (hb : nd - i < b) (hk : kid (nd - i) = []) : MetI kid stop nd b (i + 1) f ([nd - i] ++ lv) := by
  refine ⟨fun x => ?_, ?_, fun x => ?_⟩
  · rw [h.f]
    constructor
    · rintro (h1 | ⟨p, hp, r, k⟩)
      · exact .inl h1
      · exact .inr ⟨p, by omega, r, k⟩
    · rintro (h1 | ⟨p, hp, r, k⟩)
      · exact .inl h1
      · refine .inr ⟨p, ?_, r, k⟩
        by_cases e : p = nd - i
        · rw [e, hk] at k; cases k
        · omega
  · rw [List.singleton_append, List.pairwise_cons]
    exact ⟨fun x hx => by have := (h.m x).mp hx; omega, h.a⟩
  · rw [List.singleton_append, List.mem_cons, h.m]
    constructor
    · rintro (rfl | ⟨r, h1, h2⟩)
      · exact ⟨y, by omega, hb⟩
      · exact ⟨r, by omega, h2⟩
    · rintro ⟨r, h1, h2⟩
      by_cases e : x = nd - i
      · exact .inl e
      · exact .inr ⟨r, by omega, h2⟩
theorem MetI.high (h : MetI kid stop nd b i f lv) (hi : i < nd) (y : Rch kid stop nd (nd - i)) (hb : b ≤ nd - i) {u v : Nat} (hk : kid (nd - i) = [u, v]) : MetI kid stop nd b (i + 1) (fun x => decide (x = v) || (decide (x = u) || f x)) lv := by
  refine ⟨fun x => ?_, h.a, fun x => ?_⟩
  · rw [Bool.or_eq_true, Bool.or_eq_true, h.f, decide_eq_true_iff, decide_eq_true_iff]
    constructor
    · rintro (h1 | h1 | h1 | ⟨p, hp, r, k⟩)
      · exact .inr ⟨nd - i, by omega, y, by rw [hk, h1]; simp⟩
      · exact .inr ⟨nd - i, by omega, y, by rw [hk, h1]; simp⟩
      · exact .inl h1
      · exact .inr ⟨p, by omega, r, k⟩
    · rintro (h1 | ⟨p, hp, r, k⟩)
      · exact .inr (.inr (.inl h1))
      · by_cases e : p = nd - i
        · rw [e, hk] at k
          simp at k
          rcases k with k | k
          · exact .inr (.inl k)
          · exact .inl k
        · exact .inr (.inr (.inr ⟨p, by omega, r, k⟩))
  · rw [h.m]
    constructor
    · rintro ⟨r, h1, h2⟩; exact ⟨r, by omega, h2⟩
    · rintro ⟨r, h1, h2⟩; exact ⟨r, by omega, h2⟩
end
end K22
set_option Elab.async false
set_option linter.all false
set_option maxRecDepth 100000
set_option maxHeartbeats 4000000
namespace K22
open PySem PySem.Spec PyProof.Rows L2 WL
local macro_rules | `(tactic| walk_at "lk") => `(tactic| first
  | apply upd_same
  | assumption
  | (rw [upd_ne (by assumption)]; first | exact upd_same | assumption | (rw [upd_ne (by assumption)]; first | exact upd_same | assumption | (rw [upd_ne (by assumption)]; first | exact upd_same | assumption))))
local macro_rules | `(tactic| walk_at "go1") => `(tactic| first
  | (with_reducible refine g_seq ?_)
  | (with_reducible refine g_asg ?_)
  | (with_reducible refine g_name ?_)
  | (with_reducible refine g_sub ?_)
  | ((with_reducible refine' g_var ?gv ?_); (case gv => apply Eq.refl))
  | (with_reducible refine g_c ?_)
  | (with_reducible refine g_op ?_)
  | (with_reducible refine g_un ?_)
  | (with_reducible refine g_I0 ?_)
  | ((with_reducible refine g_I ?gc ?_); (case gc => first | assumption | decide | (show (0 : Int) < _; omega) | refine Or.inr ⟨by omega, by omega⟩ | refine Or.inl ⟨by omega, by omega⟩ | refine ⟨by omega, by omega⟩))
  | (with_reducible refine iteT ?_)
  | (with_reducible refine iteF ?_)
  | (with_reducible refine iteNT ?_)
  | (with_reducible refine iteNF ?_)
  | (with_reducible refine g_andV ?_)
  | (with_reducible refine g_orV ?_)
  | ((with_reducible refine' g_lenS (by assumption) ?_))
  | ((with_reducible refine' g_lenS (SqL.of (by walk_at "lk")) ?_))
  | (with_reducible refine g_U ?_)
  | ((with_reducible refine' g_eq ?gs ?_); (case gs => rfl))
  | ((with_reducible refine g_ne ?gs ?_); (case gs => rfl))
  | (with_reducible refine g_drop ?_)
  | (with_reducible refine g_ret ?_)
  | (with_reducible refine g_next ?_)
  | (with_reducible refine g_ifS ?_)
  | (with_reducible refine g_ifE ?_)
  | (with_reducible refine g_test ?_)
  | (with_reducible refine g_tb ?_)
  | (with_reducible refine g_bl ?_)
  | (with_reducible refine g_not ?_)
  | (with_reducible refine g_and ?_)
  | (with_reducible refine g_or ?_)
  | (with_reducible refine g_nil ?_)
  | (with_reducible refine g_cons ?_)
  | (with_reducible refine g_cb ?_)
  | (with_reducible refine g_call ?_)
  | (with_reducible refine g_int ?_)
  | (with_reducible refine g_two ?_)
  | ((with_reducible refine g_lenStr ?gz ?_); (case gz => first | assumption | exact sz_le (by omega)))
  | (with_reducible refine g_m1 ?_)
  | (with_reducible refine g_isS ?_)
  | (with_reducible refine g_nn ?_)
  | (with_reducible refine g_yes ?_)
  | (with_reducible refine g_for ?_)
  | (with_reducible refine g_ckw ?_)
  | (with_reducible refine g_chain ?_)
  | (with_reducible refine g_gcons ?_)
  | (with_reducible refine g_gnil ?_)
  | (with_reducible refine g_notV ?_)
  | (with_reducible refine g_iZip ?_)
  | (with_reducible refine g_lc ?_)
  | (with_reducible refine g_lc2 ?_)
  | (with_reducible refine g_iList ?_)
  | (with_reducible refine g_iRng1 ?_)
  | (with_reducible refine g_iRng2 ?_)
  | (with_reducible refine g_sl ?_)
  | (with_reducible refine g_noPart ?_)
  | (with_reducible refine g_part ?_)
  | (with_reducible refine g_ex1 ?_)
  | (with_reducible refine g_bm ?_)
  | ((with_reducible refine' g_tyL (by walk_at "lk") ?_))
  | ((with_reducible refine' g_aug ?gv ?_); (case gv => exact rfl))
  | (with_reducible refine g_ipI ?_)
  | (with_reducible refine g_turn ?_)
  | (with_reducible refine g_brk ?_)
  | (with_reducible refine g_cont ?_)
  | (with_reducible refine g_sign ?_)
  | (with_reducible refine g_lst ?_)
  | (with_reducible refine g_tup ?_)
  | ((with_reducible refine' g_ixL (by assumption) ?ga ?_); (case ga => assumption))
  | ((with_reducible refine' g_ixL (SqL.of (by walk_at "lk")) ?ga ?_); (case ga => first | exact rfl | assumption))
  | ((with_reducible refine' g_ixT (SqT.of (by walk_at "lk")) ?ga ?_); (case ga => first | exact rfl | assumption))
  | ((with_reducible refine' g_lenT (SqT.of (by walk_at "lk")) ?_))
  | ((with_reducible refine' g_isiS (b := true) ?ga ?_); (case ga => decide +kernel))
  | ((with_reducible refine' g_isiS (b := false) ?ga ?_); (case ga => decide +kernel))
  | ((with_reducible refine' g_isiI (b := true) ?ga ?_); (case ga => decide +kernel))
  | ((with_reducible refine' g_isiI (b := false) ?ga ?_); (case ga => decide +kernel))
  | ((with_reducible refine' g_setL2 ?ga ?gb ?_); (case ga => exact rfl); (case gb => exact rfl))
  | ((with_reducible refine' g_setL (by walk_at "lk") ?ga ?gb ?_); (case ga => exact rfl); (case gb => exact rfl)))
local macro_rules | `(tactic| walk_at "go") => `(tactic| ((repeat walk_at "go1"); try dsimp only [List.set, List.cons_append, List.nil_append]))
local macro_rules | `(tactic| walk_at "go1") => `(tactic| first
  | (with_reducible refine WOwn.g_fl ?_)
  | (with_reducible refine WOwn.g_sfl ?_)
  | (with_reducible refine WOwn.g_make ?_)
  | (with_reducible refine WOwn.g_meth ?_)
  | (with_reducible refine WOwn.g_sm ?_)
  | (with_reducible refine WOwn.g_cv ?_))
def spTop : Sp := fun _ _ _ _ => False
def spFull : Sp := fun vs H Q _ => ∃ n : Nat, vs = [.int (n : Int)] ∧ n ≤ 16 ∧ Q (.int (2 ^ 2 ^ n - 1)) H
def spVar : Sp := fun vs H Q _ => ∃ i n : Nat, vs = [.int (i : Int), .int (n : Int)] ∧ i < n ∧ n ≤ 16 ∧ ∀ t : Nat, t < 2 ^ 2 ^ n → (∀ c, c < 2 ^ n → t.testBit c = c.testBit i) → Q (.int (t : Int)) H
theorem bits_le {N k : Nat} (h : N < 2 ^ k) : (Builtin.Int.intBits (N : Int) : Int) ≤ k + 1 := by
  unfold Builtin.Int.intBits
  by_cases h0 : N = 0
  · subst h0; simp; omega
  · have := (Nat.log2_lt h0).mpr h
    simp [h0]
    omega
theorem one_shl (n : Nat) : (1 : Int) * 2 ^ ((n : Nat) : Int).toNat = ((2 ^ n : Nat) : Int) := by rw [Int.one_mul, Int.toNat_natCast]; simp
theorem nat_shl (a n : Nat) : (a : Int) * 2 ^ ((n : Nat) : Int).toNat = ((a * 2 ^ n : Nat) : Int) := by rw [Int.toNat_natCast]; simp
theorem f_rng2n {lo hi : Int} {g : TG} {tbd : TS} {D : Ends} {σ : L2.St} {H : Hp} (h : -(2 ^ 62) ≤ lo ∧ lo < 2 ^ 62 ∧ -(2 ^ 62) ≤ hi ∧ hi < 2 ^ 62) (Pv : Nat → L2.St → Hp → Prop) (h0 : Pv 0 σ H)
    (hs : ∀ i σ H, i < (hi - lo).toNat → Pv i σ H → g (.int (lo + i)) σ H fun σ2 H2 => tbd { D with nx := Pv (i + 1), ct := Pv (i + 1), bk := D.nx } σ2 H2) (hd : ∀ σ H, Pv (hi - lo).toNat σ H → D.nx σ H) :
    (-(2 ^ 62) ≤ lo ∧ lo < 2 ^ 62 ∧ -(2 ^ 62) ≤ hi ∧ hi < 2 ^ 62) ∧ tForK g tbd D σ (Itr lo (hi - lo).toNat) H := ⟨h, for_range Pv h0 hs hd⟩
variable {P : Program} {w : World} {K : PySem.W.Frag} {mg : Str → Option Value} {base : Heap} {dA : Nat → Addr}
theorem ok_full_table (T : Txt K mg dA)  {f : Addr} {fd : FuncData} (F : Fun K "full_table" "full_table" s_full_table f fd) : FnOk P w K mg base CX0 1 f fd ["count"] spFull := by
  refine F.ok sc_full_table (fun vs H Q E h => ?_) (fun cdv A outer s H vs Q E hr h => ?_)
  · obtain ⟨n, rfl, _⟩ := h
    rfl
  obtain ⟨n, rfl, hn, q⟩ := h
  refine ⟨_, (pss_one (ps_ret (pe_op op_sub (pe_op op_shl pe_int (pe_op op_shl pe_int (pv 0))) pe_int))), ?_⟩
  rw [show (L2.start ["count"] [.int (n : Int)] : L2.St) = [some (.int (n : Int))] from rfl]
  try simp only [WL.cxK]
  walk_at "go"
  have h16 : (2 : Nat) ^ n ≤ 2 ^ 16 := Nat.pow_le_pow_right (by decide) hn
  have e : (1 : Int) * 2 ^ (n : Int).toNat = ((2 ^ n : Nat) : Int) := by rw [Int.one_mul, Int.toNat_natCast]; simp
  rw [e]
  generalize (2 : Nat) ^ n = N at h16 q ⊢
  refine g_I (show CPow 1 (N : Int) from ⟨by omega, by omega, by decide⟩) ?_
  walk_at "go"
  rw [Int.one_mul, Int.toNat_natCast]
  exact q
theorem ok_variable (T : Txt K mg dA)  {f : Addr} {fd : FuncData} (F : Fun K "variable" "variable" s_variable f fd) : FnOk P w K mg base CX0 1 f fd ["i", "count"] spVar := by
  refine F.ok sc_variable (fun vs H Q E h => ?_) (fun cdv A outer s H vs Q E hr h => ?_)
  · obtain ⟨i, n, rfl, _⟩ := h
    rfl
  obtain ⟨i, n, rfl, hi, hn, q⟩ := h
  refine ⟨_, (pss_cons (ps_set (i := 2) sc_variable.nd rfl (.inl rfl) (pe_op op_shl pe_int (pv 0)))
      (pss_cons (ps_set (i := 3) sc_variable.nd rfl (.inl rfl) (pe_op op_shlW (pe_op op_sub (pe_op op_shl pe_int (pv 2)) pe_int) (pv 2)))
      (pss_cons (ps_for PassesOwn.never rfl (pi_range2 (by rfl) T.b_range (pa_cons (pe_op op_add (pv 0) pe_int) (pa_cons (pv 1) pa_nil))) (pg_name (i := 4) sc_variable.nd rfl (.inl rfl)) (pss_one (ps_set (i := 3) sc_variable.nd rfl (.inl rfl) (pe_op op_or (pv 3) (pe_op op_shlW (pv 3) (pe_op op_shl pe_int (pv 4)))))))
      (pss_one (ps_ret (pv 3)))))), ?_⟩
  rw [show (L2.start ["i", "count", "size", "table", "k"] [.int (i : Int), .int (n : Int)] : L2.St) = [some (.int (i : Int)), some (.int (n : Int)), none, none, none] from rfl]
  try simp only [WL.cxK]
  have hS : (2 : Nat) ^ i ≤ 2 ^ 15 := Nat.pow_le_pow_right (by decide) (by omega)
  walk_at "go"
  rw [one_shl]
  have hp : 0 < (2 : Nat) ^ 2 ^ i := Nat.pow_pos (by decide)
  refine g_I (show CPow 1 ((2 ^ i : Nat) : Int) from ⟨Int.natCast_nonneg _, Int.le_trans (Int.ofNat_le.mpr hS) (by decide), by decide⟩) ?_
  walk_at "go"
  rw [one_shl, show ((2 ^ 2 ^ i : Nat) : Int) - 1 = ((2 ^ 2 ^ i - 1 : Nat) : Int) by omega]
  refine g_I (show CShl ((2 ^ 2 ^ i - 1 : Nat) : Int) ((2 ^ i : Nat) : Int) from ⟨Int.natCast_nonneg _, ?_⟩) ?_
  · have := bits_le (N := 2 ^ 2 ^ i - 1) (k := 2 ^ i) (by omega)
    have h2 := Int.ofNat_le.mpr hS
    generalize ((2 ^ i : Nat) : Int) = S at this h2 ⊢
    generalize (Builtin.Int.intBits ((2 ^ 2 ^ i - 1 : Nat) : Int) : Int) = B at this ⊢
    have h3 : S ≤ 32768 := h2
    omega
  rw [nat_shl]
  walk_at "go"
  refine f_rng2n (by omega) (fun k σ' H' => ∃ (t : Nat) (y : Option V), σ' = [some (.int (i : Int)), some (.int (n : Int)), some (.int ((2 ^ i : Nat) : Int)), some (.int (t : Int)), y] ∧ H' = H ∧ t < 2 ^ 2 ^ (i + 1 + k) ∧ ∀ c, c < 2 ^ (i + 1 + k) → t.testBit c = c.testBit i)
    ⟨_, _, rfl, rfl, var0_lt i, fun c hc => var0 hc⟩ (fun k σ' H' hk hP => ?_) (fun σ' H' hP => ?_)
  · obtain ⟨t, y, rfl, rfl, ht, hb⟩ := hP
    rw [show ((i : Nat) : Int) + 1 + (k : Nat) = ((i + 1 + k : Nat) : Int) by omega]
    have hkn : i + 1 + k < n := by omega
    generalize hK : i + 1 + k = m at ht hb hkn
    have hM : (2 : Nat) ^ m ≤ 2 ^ 15 := Nat.pow_le_pow_right (by decide) (by omega)
    walk_at "go"
    rw [one_shl]
    refine g_I (show CShl (t : Int) ((2 ^ m : Nat) : Int) from ⟨Int.natCast_nonneg _, ?_⟩) ?_
    · have := bits_le ht
      have h2 := Int.ofNat_le.mpr hM
      generalize ((2 ^ m : Nat) : Int) = S at this h2 ⊢
      have h3 : S ≤ 32768 := h2
      omega
    rw [nat_shl]
    walk_at "go"
    refine ⟨t ||| t * 2 ^ 2 ^ m, some (.int (m : Int)), ?_, rfl, ?_, ?_⟩
    · rw [Bits.bitOr_pp (Int.natCast_nonneg _) (Int.natCast_nonneg _), Int.toNat_natCast, Int.toNat_natCast]
    · rw [show i + 1 + (k + 1) = m + 1 by omega]; exact varS_lt ht
    · intro c hc
      rw [show i + 1 + (k + 1) = m + 1 by omega] at hc
      exact varS (by omega) ht hb hc
  · obtain ⟨t, y, rfl, rfl, ht, hb⟩ := hP
    rw [show i + 1 + ((n : Int) - ((i : Int) + 1)).toNat = n by omega] at ht hb
    walk_at "go"
    exact q t ht hb
end K22
set_option Elab.async false
set_option linter.all false
set_option maxRecDepth 100000
set_option maxHeartbeats 4000000
namespace K22
open PySem PySem.Spec PyProof.Rows L2 WL
local macro_rules | `(tactic| walk_at "lk") => `(tactic| first
  | apply upd_same
  | assumption
  | (rw [upd_ne (by assumption)]; first | exact upd_same | assumption | (rw [upd_ne (by assumption)]; first | exact upd_same | assumption | (rw [upd_ne (by assumption)]; first | exact upd_same | assumption))))
local macro_rules | `(tactic| walk_at "go1") => `(tactic| first
  | (with_reducible refine g_seq ?_)
  | (with_reducible refine g_asg ?_)
  | (with_reducible refine g_name ?_)
  | (with_reducible refine g_sub ?_)
  | ((with_reducible refine' g_var ?gv ?_); (case gv => apply Eq.refl))
  | (with_reducible refine g_c ?_)
  | (with_reducible refine g_op ?_)
  | (with_reducible refine g_un ?_)
  | (with_reducible refine g_I0 ?_)
  | ((with_reducible refine g_I ?gc ?_); (case gc => first | assumption | decide | (show (0 : Int) < _; omega) | refine Or.inr ⟨by omega, by omega⟩ | refine Or.inl ⟨by omega, by omega⟩ | refine ⟨by omega, by omega⟩))
  | (with_reducible refine iteT ?_)
  | (with_reducible refine iteF ?_)
  | (with_reducible refine iteNT ?_)
  | (with_reducible refine iteNF ?_)
  | (with_reducible refine g_andV ?_)
  | (with_reducible refine g_orV ?_)
  | ((with_reducible refine' g_lenS (by assumption) ?_))
  | ((with_reducible refine' g_lenS (SqL.of (by walk_at "lk")) ?_))
  | (with_reducible refine g_U ?_)
  | ((with_reducible refine' g_eq ?gs ?_); (case gs => rfl))
  | ((with_reducible refine g_ne ?gs ?_); (case gs => rfl))
  | (with_reducible refine g_drop ?_)
  | (with_reducible refine g_ret ?_)
  | (with_reducible refine g_next ?_)
  | (with_reducible refine g_ifS ?_)
  | (with_reducible refine g_ifE ?_)
  | (with_reducible refine g_test ?_)
  | (with_reducible refine g_tb ?_)
  | (with_reducible refine g_bl ?_)
  | (with_reducible refine g_not ?_)
  | (with_reducible refine g_and ?_)
  | (with_reducible refine g_or ?_)
  | (with_reducible refine g_nil ?_)
  | (with_reducible refine g_cons ?_)
  | (with_reducible refine g_cb ?_)
  | (with_reducible refine g_call ?_)
  | (with_reducible refine g_int ?_)
  | (with_reducible refine g_two ?_)
  | ((with_reducible refine g_lenStr ?gz ?_); (case gz => first | assumption | exact sz_le (by omega)))
  | (with_reducible refine g_m1 ?_)
  | (with_reducible refine g_isS ?_)
  | (with_reducible refine g_nn ?_)
  | (with_reducible refine g_yes ?_)
  | (with_reducible refine g_for ?_)
  | (with_reducible refine g_ckw ?_)
  | (with_reducible refine g_chain ?_)
  | (with_reducible refine g_gcons ?_)
  | (with_reducible refine g_gnil ?_)
  | (with_reducible refine g_notV ?_)
  | (with_reducible refine g_iZip ?_)
  | (with_reducible refine g_lc ?_)
  | (with_reducible refine g_lc2 ?_)
  | (with_reducible refine g_iList ?_)
  | (with_reducible refine g_iRng1 ?_)
  | (with_reducible refine g_iRng2 ?_)
  | (with_reducible refine g_sl ?_)
  | (with_reducible refine g_noPart ?_)
  | (with_reducible refine g_part ?_)
  | (with_reducible refine g_ex1 ?_)
  | (with_reducible refine g_bm ?_)
  | ((with_reducible refine' g_tyL (by walk_at "lk") ?_))
  | ((with_reducible refine' g_aug ?gv ?_); (case gv => exact rfl))
  | (with_reducible refine g_ipI ?_)
  | (with_reducible refine g_turn ?_)
  | (with_reducible refine g_brk ?_)
  | (with_reducible refine g_cont ?_)
  | (with_reducible refine g_sign ?_)
  | (with_reducible refine g_lst ?_)
  | (with_reducible refine g_tup ?_)
  | ((with_reducible refine' g_ixL (by assumption) ?ga ?_); (case ga => assumption))
  | ((with_reducible refine' g_ixL (SqL.of (by walk_at "lk")) ?ga ?_); (case ga => first | exact rfl | assumption))
  | ((with_reducible refine' g_ixT (SqT.of (by walk_at "lk")) ?ga ?_); (case ga => first | exact rfl | assumption))
  | ((with_reducible refine' g_lenT (SqT.of (by walk_at "lk")) ?_))
  | ((with_reducible refine' g_isiS (b := true) ?ga ?_); (case ga => decide +kernel))
  | ((with_reducible refine' g_isiS (b := false) ?ga ?_); (case ga => decide +kernel))
  | ((with_reducible refine' g_isiI (b := true) ?ga ?_); (case ga => decide +kernel))
  | ((with_reducible refine' g_isiI (b := false) ?ga ?_); (case ga => decide +kernel))
  | ((with_reducible refine' g_setL2 ?ga ?gb ?_); (case ga => exact rfl); (case gb => exact rfl))
  | ((with_reducible refine' g_setL (by walk_at "lk") ?ga ?gb ?_); (case ga => exact rfl); (case gb => exact rfl)))
local macro_rules | `(tactic| walk_at "go") => `(tactic| ((repeat walk_at "go1"); try dsimp only [List.set, List.cons_append, List.nil_append]))
local macro_rules | `(tactic| walk_at "go1") => `(tactic| first
  | (with_reducible refine WOwn.g_fl ?_)
  | (with_reducible refine WOwn.g_sfl ?_)
  | (with_reducible refine WOwn.g_make ?_)
  | (with_reducible refine WOwn.g_meth ?_)
  | (with_reducible refine WOwn.g_sm ?_)
  | (with_reducible refine WOwn.g_cv ?_))
local macro_rules | `(tactic| walk_at "go1") => `(tactic| first
  | (with_reducible refine WDict.g_dget ?_)
  | (with_reducible refine WDict.g_din ?_)
  | (with_reducible refine WDict.g_dnotin ?_)
  | (with_reducible refine WDict.g_dput ?_)
  | (with_reducible refine WDict.g_dnew ?_)
  | (with_reducible refine WDict.g_dget2 ?_)
  | (with_reducible refine WDict.g_dsetd ?_)
  | (with_reducible refine WDict.g_disp ?_)
  | (with_reducible refine WDict.g_pair ?_)
  | (with_reducible refine WDict.g_pair0 ?_)
  | (with_reducible refine WDict.g_tru ?_))
def spLit : Sp := fun vs H Q _ => ∃ (d : Addr) (kvs : List (Key × V)) (L t n : Nat), vs = [.ref d, .int (L : Int), .int (2 ^ 2 ^ n - 1)] ∧ H d = some (.dK kvs) ∧ valV kvs (.inl ((L / 2 : Nat) : Int)) = some (.int (t : Int)) ∧ t < 2 ^ 2 ^ n ∧ ∀ r : Nat, r < 2 ^ 2 ^ n → (∀ c, c < 2 ^ n → r.testBit c = (t.testBit c != decide (L % 2 = 1))) → Q (.int (r : Int)) H
/-- a graph: its four lists -/
structure Gr where
  ins : List V
  regs : List V
  ands : List V
  outs : List V
def GA (C : Addr) (H : Hp) (g : Addr) (G : Gr) : Prop := ∃ dx li lr la lo, H g = some (.ins C dx [("_inputs", .ref li), ("_regs", .ref lr), ("_ands", .ref la), ("_outputs", .ref lo)]) ∧ H li = some (.lst G.ins) ∧ H lr = some (.lst G.regs) ∧ H la = some (.lst G.ands) ∧ H lo = some (.lst G.outs)
theorem GA.same {C g : Addr} {H H' : Hp} {G : Gr} (s : Same H H') (h : GA C H g G) : GA C H' g G := let ⟨dx, li, lr, la, lo, a, b, c, d, e⟩ := h; ⟨dx, li, lr, la, lo, s _ _ a, s _ _ b, s _ _ c, s _ _ d, s _ _ e⟩
abbrev Rows := List (Addr × Str × Int)
def InsAt (H : Hp) (r : Rows) : Prop := ∀ t ∈ r, H t.1 = some (.tup [.str t.2.1, .int t.2.2])
def spBits (C : Addr) : Sp := fun vs H Q _ => ∃ (g : Addr) (G : Gr) (r : Rows), vs = [.ref g] ∧ GA C H g G ∧ G.ins = r.map (fun t => V.ref t.1) ∧ InsAt H r ∧ r.length ≤ 1000 ∧ ∀ H', Same H H' → Q (.int (r.map fun t => t.2.2).sum) H'
def spFirst (C : Addr) : Sp := fun vs H Q _ => ∃ (g : Addr) (G : Gr) (r : Rows), vs = [.ref g] ∧ GA C H g G ∧ G.ins = r.map (fun t => V.ref t.1) ∧ InsAt H r ∧ r.length ≤ 1000 ∧ G.regs.length ≤ 1000 ∧ ∀ H', Same H H' → Q (.int (1 + (r.map fun t => t.2.2).sum + (G.regs.length : Int))) H'
def spCopy (C : Addr) (f : Gr → List V) : Sp := fun vs H Q _ => ∃ (g : Addr) (G : Gr), vs = [.ref g] ∧ GA C H g G ∧ (f G).length ≤ 100000 ∧ ∀ p, H p = none → Q (.ref p) (upd H p (.lst (f G)))
variable {P : Program} {w : World} {K : PySem.W.Frag} {mg : Str → Option Value} {base : Heap} {dA : Nat → Addr}
theorem ok_literal_table (T : Txt K mg dA)  {f : Addr} {fd : FuncData} (F : Fun K "literal_table" "literal_table" s_literal_table f fd) : FnOk P w K mg base CX0 1 f fd ["tables", "literal", "full"] spLit := by
  refine F.ok sc_literal_table (fun vs H Q E h => ?_) (fun cdv A outer s H vs Q E hr h => ?_)
  · obtain ⟨d, kvs, L, t, n, rfl, _⟩ := h
    rfl
  obtain ⟨d, kvs, L, t, n, rfl, hd, hv, ht, q⟩ := h
  refine ⟨_, (pss_cons (ps_set (i := 3) sc_literal_table.nd rfl (.inl rfl) (pe_dget (hu_of hr) (pv 0) (pe_op op_shr (pv 1) pe_int) (fun _ _ => rfl)))
      (pss_cons (ps_if (kpt_truth K (pe_op op_and (pv 1) pe_int) (by intro _; rfl)) (pss_one (ps_ret (pe_op op_xor (pv 3) (pv 2)))) pss_nil)
      (pss_one (ps_ret (pv 3))))), ?_⟩
  rw [show (L2.start ["tables", "literal", "full", "table"] [.ref d, .int (L : Int), .int (2 ^ 2 ^ n - 1)] : L2.St) = [some (.ref d), some (.int (L : Int)), some (.int (2 ^ 2 ^ n - 1)), none] from rfl]
  try simp only [WL.cxK]
  walk_at "go"
  rw [show (L : Int) / 2 ^ Int.toNat 1 = ((L / 2 : Nat) : Int) from by rw [show (2 : Int) ^ Int.toNat 1 = 2 from rfl]; omega]
  refine WDict.g_getI hd hv ?_
  walk_at "go"
  have hand : Builtin.bitAnd (L : Int) 1 = ((L % 2 : Nat) : Int) := by rw [bitAnd_m1]; omega
  rw [hand]
  refine ⟨decide (L % 2 = 1), by show decide (L % 2 = 1) = (((L % 2 : Nat) : Int) != 0); rcases (by omega : L % 2 = 0 ∨ L % 2 = 1) with h | h <;> rw [h] <;> rfl, ?_⟩
  have hp : 0 < (2 : Nat) ^ 2 ^ n := Nat.pow_pos (by decide)
  have hf : (2 : Int) ^ 2 ^ n - 1 = ((2 ^ 2 ^ n - 1 : Nat) : Int) := by
    have : ((2 ^ 2 ^ n : Nat) : Int) = (2 : Int) ^ 2 ^ n := by simp
    omega
  refine g_ite (fun e => ?_) (fun e => ?_)
  · walk_at "go"
    rw [hf, Bits.bitXor_pp (Int.natCast_nonneg _) (Int.natCast_nonneg _), Int.toNat_natCast, Int.toNat_natCast]
    refine q _ (Nat.xor_lt_two_pow ht (by omega)) fun c hc => ?_
    rw [Nat.testBit_xor, Nat.testBit_two_pow_sub_one, decide_eq_true hc, decide_eq_true e]
  · walk_at "go"
    refine q t ht fun c hc => ?_
    rw [decide_eq_false e]
    simp
theorem ok_Graph_inputs (T : Txt K mg dA)  {f : Addr} {fd : FuncData} (F : Fun K "inputs" "Graph.inputs" s_Graph_inputs f fd) : FnOk P w K mg base CX0 1 f fd ["self"] (spCopy (dA 200) Gr.ins) := by
  refine F.ok sc_Graph_inputs (fun vs H Q E h => ?_) (fun cdv A outer s H vs Q E hr h => ?_)
  · obtain ⟨g, G, rfl, _⟩ := h
    rfl
  obtain ⟨g, G, rfl, ⟨dx, li, lr, la, lo, hg, hi, hre, ha, ho⟩, hz, q⟩ := h
  refine ⟨_, (pss_one (ps_ret (pe_callTy (kcall_list_of K) (by rfl) T.b_list (by decide +kernel) (pa_cons (WOwn.pe_fl T.cl_Graph T.na_Graph__inputs (pv 0)) pa_nil)))), ?_⟩
  rw [show (L2.start ["self"] [.ref g] : L2.St) = [some (.ref g)] from rfl]
  try simp only [WL.cxK]
  walk_at "go"
  refine WOwn.g_flR hg rfl ?_
  walk_at "go"
  exact q
theorem ok_Graph_regs (T : Txt K mg dA)  {f : Addr} {fd : FuncData} (F : Fun K "regs" "Graph.regs" s_Graph_regs f fd) : FnOk P w K mg base CX0 1 f fd ["self"] (spCopy (dA 200) Gr.regs) := by
  refine F.ok sc_Graph_regs (fun vs H Q E h => ?_) (fun cdv A outer s H vs Q E hr h => ?_)
  · obtain ⟨g, G, rfl, _⟩ := h
    rfl
  obtain ⟨g, G, rfl, ⟨dx, li, lr, la, lo, hg, hi, hre, ha, ho⟩, hz, q⟩ := h
  refine ⟨_, (pss_one (ps_ret (pe_callTy (kcall_list_of K) (by rfl) T.b_list (by decide +kernel) (pa_cons (WOwn.pe_fl T.cl_Graph T.na_Graph__regs (pv 0)) pa_nil)))), ?_⟩
  rw [show (L2.start ["self"] [.ref g] : L2.St) = [some (.ref g)] from rfl]
  try simp only [WL.cxK]
  walk_at "go"
  refine WOwn.g_flR hg rfl ?_
  walk_at "go"
  exact q
theorem ok_Graph_ands (T : Txt K mg dA)  {f : Addr} {fd : FuncData} (F : Fun K "ands" "Graph.ands" s_Graph_ands f fd) : FnOk P w K mg base CX0 1 f fd ["self"] (spCopy (dA 200) Gr.ands) := by
  refine F.ok sc_Graph_ands (fun vs H Q E h => ?_) (fun cdv A outer s H vs Q E hr h => ?_)
  · obtain ⟨g, G, rfl, _⟩ := h
    rfl
  obtain ⟨g, G, rfl, ⟨dx, li, lr, la, lo, hg, hi, hre, ha, ho⟩, hz, q⟩ := h
  refine ⟨_, (pss_one (ps_ret (pe_callTy (kcall_list_of K) (by rfl) T.b_list (by decide +kernel) (pa_cons (WOwn.pe_fl T.cl_Graph T.na_Graph__ands (pv 0)) pa_nil)))), ?_⟩
  rw [show (L2.start ["self"] [.ref g] : L2.St) = [some (.ref g)] from rfl]
  try simp only [WL.cxK]
  walk_at "go"
  refine WOwn.g_flR hg rfl ?_
  walk_at "go"
  exact q
theorem ok_input_bits (T : Txt K mg dA) (c_Graph_inputs : C8.Met P w K mg base 1 (dA 200) "inputs" (spCopy (dA 200) Gr.ins) []) {f : Addr} {fd : FuncData} (F : Fun K "input_bits" "input_bits" s_input_bits f fd) : FnOk P w K mg base CX0 2 f fd ["graph"] (spBits (dA 200)) := by
  refine F.ok sc_input_bits (fun vs H Q E h => ?_) (fun cdv A outer s H vs Q E hr h => ?_)
  · obtain ⟨g, G, r, rfl, _⟩ := h
    rfl
  obtain ⟨g, G, r, rfl, ⟨dx, li, lr, la, lo, hg, hrest⟩, hG, hrw, hz, q⟩ := h
  refine ⟨_, (pss_one (ps_ret (pe_callB (kcr_sum K) (by rfl) T.b_sum (by decide +kernel) (pa_cons (pe_lc (own := [("_", 1), ("width", 2)]) rfl sc_input_bits.nd (kpi_list K (C8.pe_mt0 c_Graph_inputs hr (by decide) (pv 0))) (blkOk_by (own := [("_", 1), ("width", 2)]) (N := ["graph", "_", "width"]) (sc := defScope s_input_bits) (by decide +kernel)) (fun _ _ _ _ _ => (kpg_tup K (n := 2) (by rfl) (pgs_cons (pg_name (i := 1) sc_input_bits.nd rfl (.inl rfl)) (pgs_cons (pg_name (i := 2) sc_input_bits.nd rfl (.inl rfl)) pgs_nil)))) (fun _ _ _ _ _ => pts_nil) (fun _ _ _ _ _ => (pv 2))) pa_nil)))), ?_⟩
  rw [show (L2.start ["graph", "_", "width"] [.ref g] : L2.St) = [some (.ref g), none, none] from rfl]
  try simp only [WL.cxK]
  walk_at "go"
  refine WOwn.g_methR hg rfl ?_
  walk_at "go"
  refine ⟨g, G, rfl, ⟨dx, li, lr, la, lo, hg, hrest⟩, by rw [hG, List.length_map]; omega, fun p np => ?_⟩
  rw [hG]
  have sp := same_new np (o := .lst (r.map fun t => V.ref t.1))
  have hp : upd H p (.lst (r.map fun t => V.ref t.1)) p = some (.lst (r.map fun t => V.ref t.1)) := upd_same
  walk_at "go"
  refine f_lcL (SqL.of hp) (fun D i H' => H' = upd (upd H p (.lst (r.map fun t => V.ref t.1))) D (.lst ((r.take i).map fun t => V.int t.2.2))) (fun D nD => rfl) (fun D i H' nD _ e => by rw [e]; exact SqL.of (same_new nD _ _ hp)) (fun D i x H' nD hx e => ?_) (fun D H' nD e => ?_)
  · obtain ⟨t, ht, rfl⟩ := map_atG hx
    have htm := List.mem_of_getElem? ht
    have hrow := same_new nD (o := .lst ((r.take i).map fun t => V.int t.2.2)) _ _ (sp _ _ (hrw t htm))
    have hil := (List.getElem?_eq_some_iff.mp ht).1
    subst e
    walk_at "go"
    refine ⟨t.1, _, rfl, SqT.of hrow, rfl, ?_⟩
    walk_at "go"
    refine ⟨rfl, ?_⟩
    walk_at "go"
    refine ⟨_, upd_same, by rw [List.length_map, List.length_take]; exact Nat.lt_of_lt_of_le (m := 1001) (by omega) (by decide), ?_⟩
    rw [upd_upd, List.take_succ, ht, List.map_append]
    rfl
  · subst e
    walk_at "go"
    refine ⟨D, r.map (fun t => t.2.2), rfl, SqL.of (by rw [upd_same, List.length_map, List.take_length, List.map_map]; rfl), ?_⟩
    walk_at "go"
    exact q _ (sp.trans (same_new nD))
theorem ok_first_and (T : Txt K mg dA) (c_input_bits : C8.Cal P w K mg base 2 "input_bits" (spBits (dA 200)) []) (c_Graph_regs : C8.Met P w K mg base 1 (dA 200) "regs" (spCopy (dA 200) Gr.regs) []) {f : Addr} {fd : FuncData} (F : Fun K "first_and" "first_and" s_first_and f fd) : FnOk P w K mg base CX0 3 f fd ["graph"] (spFirst (dA 200)) := by
  refine F.ok sc_first_and (fun vs H Q E h => ?_) (fun cdv A outer s H vs Q E hr h => ?_)
  · obtain ⟨g, G, r, rfl, _⟩ := h
    rfl
  obtain ⟨g, G, r, rfl, hA, hG, hrw, hz, hz2, q⟩ := h
  refine ⟨_, (pss_one (ps_ret (pe_op op_add (pe_op op_add pe_int (C8.pe_c c_input_bits hr (by decide) (by rfl) (pa_cons (pv 0) pa_nil))) (pe_callB (kcall_len_seq K) (by rfl) T.b_len (by decide +kernel) (pa_cons (C8.pe_mt0 c_Graph_regs hr (by decide) (pv 0)) pa_nil))))), ?_⟩
  rw [show (L2.start ["graph"] [.ref g] : L2.St) = [some (.ref g)] from rfl]
  try simp only [WL.cxK]
  walk_at "go"
  refine ⟨g, G, r, rfl, hA, hG, hrw, hz, fun H1 s1 => ?_⟩
  have hA1 := hA.same s1
  obtain ⟨dx, li, lr, la, lo, hg, hrest⟩ := hA1
  walk_at "go"
  refine WOwn.g_methR hg rfl ?_
  walk_at "go"
  refine ⟨g, G, rfl, ⟨dx, li, lr, la, lo, hg, hrest⟩, by omega, fun p np => ?_⟩
  walk_at "go"
  exact q _ (s1.trans (same_new np))
end K22
set_option Elab.async false
set_option linter.all false
set_option maxRecDepth 100000
set_option maxHeartbeats 4000000
namespace K22
open PySem PySem.Spec PyProof.Rows L2 WL
local macro_rules | `(tactic| walk_at "lk") => `(tactic| first
  | apply upd_same
  | assumption
  | (rw [upd_ne (by assumption)]; first | exact upd_same | assumption | (rw [upd_ne (by assumption)]; first | exact upd_same | assumption | (rw [upd_ne (by assumption)]; first | exact upd_same | assumption))))
local macro_rules | `(tactic| walk_at "go1") => `(tactic| first
  | (with_reducible refine g_seq ?_)
  | (with_reducible refine g_asg ?_)
  | (with_reducible refine g_name ?_)
  | (with_reducible refine g_sub ?_)
  | ((with_reducible refine' g_var ?gv ?_); (case gv => apply Eq.refl))
  | (with_reducible refine g_c ?_)
  | (with_reducible refine g_op ?_)
  | (with_reducible refine g_un ?_)
  | (with_reducible refine g_I0 ?_)
  | ((with_reducible refine g_I ?gc ?_); (case gc => first | assumption | decide | (show (0 : Int) < _; omega) | refine Or.inr ⟨by omega, by omega⟩ | refine Or.inl ⟨by omega, by omega⟩ | refine ⟨by omega, by omega⟩))
  | (with_reducible refine iteT ?_)
  | (with_reducible refine iteF ?_)
  | (with_reducible refine iteNT ?_)
  | (with_reducible refine iteNF ?_)
  | (with_reducible refine g_andV ?_)
  | (with_reducible refine g_orV ?_)
  | ((with_reducible refine' g_lenS (by assumption) ?_))
  | ((with_reducible refine' g_lenS (SqL.of (by walk_at "lk")) ?_))
  | (with_reducible refine g_U ?_)
  | ((with_reducible refine' g_eq ?gs ?_); (case gs => rfl))
  | ((with_reducible refine g_ne ?gs ?_); (case gs => rfl))
  | (with_reducible refine g_drop ?_)
  | (with_reducible refine g_ret ?_)
  | (with_reducible refine g_next ?_)
  | (with_reducible refine g_ifS ?_)
  | (with_reducible refine g_ifE ?_)
  | (with_reducible refine g_test ?_)
  | (with_reducible refine g_tb ?_)
  | (with_reducible refine g_bl ?_)
  | (with_reducible refine g_not ?_)
  | (with_reducible refine g_and ?_)
  | (with_reducible refine g_or ?_)
  | (with_reducible refine g_nil ?_)
  | (with_reducible refine g_cons ?_)
  | (with_reducible refine g_cb ?_)
  | (with_reducible refine g_call ?_)
  | (with_reducible refine g_int ?_)
  | (with_reducible refine g_two ?_)
  | ((with_reducible refine g_lenStr ?gz ?_); (case gz => first | assumption | exact sz_le (by omega)))
  | (with_reducible refine g_m1 ?_)
  | (with_reducible refine g_isS ?_)
  | (with_reducible refine g_nn ?_)
  | (with_reducible refine g_yes ?_)
  | (with_reducible refine g_for ?_)
  | (with_reducible refine g_ckw ?_)
  | (with_reducible refine g_chain ?_)
  | (with_reducible refine g_gcons ?_)
  | (with_reducible refine g_gnil ?_)
  | (with_reducible refine g_notV ?_)
  | (with_reducible refine g_iZip ?_)
  | (with_reducible refine g_lc ?_)
  | (with_reducible refine g_lc2 ?_)
  | (with_reducible refine g_iList ?_)
  | (with_reducible refine g_iRng1 ?_)
  | (with_reducible refine g_iRng2 ?_)
  | (with_reducible refine g_sl ?_)
  | (with_reducible refine g_noPart ?_)
  | (with_reducible refine g_part ?_)
  | (with_reducible refine g_ex1 ?_)
  | (with_reducible refine g_bm ?_)
  | ((with_reducible refine' g_tyL (by walk_at "lk") ?_))
  | ((with_reducible refine' g_aug ?gv ?_); (case gv => exact rfl))
  | (with_reducible refine g_ipI ?_)
  | (with_reducible refine g_turn ?_)
  | (with_reducible refine g_brk ?_)
  | (with_reducible refine g_cont ?_)
  | (with_reducible refine g_sign ?_)
  | (with_reducible refine g_lst ?_)
  | (with_reducible refine g_tup ?_)
  | ((with_reducible refine' g_ixL (by assumption) ?ga ?_); (case ga => assumption))
  | ((with_reducible refine' g_ixL (SqL.of (by walk_at "lk")) ?ga ?_); (case ga => first | exact rfl | assumption))
  | ((with_reducible refine' g_ixT (SqT.of (by walk_at "lk")) ?ga ?_); (case ga => first | exact rfl | assumption))
  | ((with_reducible refine' g_lenT (SqT.of (by walk_at "lk")) ?_))
  | ((with_reducible refine' g_isiS (b := true) ?ga ?_); (case ga => decide +kernel))
  | ((with_reducible refine' g_isiS (b := false) ?ga ?_); (case ga => decide +kernel))
  | ((with_reducible refine' g_isiI (b := true) ?ga ?_); (case ga => decide +kernel))
  | ((with_reducible refine' g_isiI (b := false) ?ga ?_); (case ga => decide +kernel))
  | ((with_reducible refine' g_setL2 ?ga ?gb ?_); (case ga => exact rfl); (case gb => exact rfl))
  | ((with_reducible refine' g_setL (by walk_at "lk") ?ga ?gb ?_); (case ga => exact rfl); (case gb => exact rfl)))
local macro_rules | `(tactic| walk_at "go") => `(tactic| ((repeat walk_at "go1"); try dsimp only [List.set, List.cons_append, List.nil_append]))
local macro_rules | `(tactic| walk_at "go1") => `(tactic| first
  | (with_reducible refine WOwn.g_fl ?_)
  | (with_reducible refine WOwn.g_sfl ?_)
  | (with_reducible refine WOwn.g_make ?_)
  | (with_reducible refine WOwn.g_meth ?_)
  | (with_reducible refine WOwn.g_sm ?_)
  | (with_reducible refine WOwn.g_cv ?_))
local macro_rules | `(tactic| walk_at "go1") => `(tactic| first
  | (with_reducible refine WDict.g_dget ?_)
  | (with_reducible refine WDict.g_din ?_)
  | (with_reducible refine WDict.g_dnotin ?_)
  | (with_reducible refine WDict.g_dput ?_)
  | (with_reducible refine WDict.g_dnew ?_)
  | (with_reducible refine WDict.g_dget2 ?_)
  | (with_reducible refine WDict.g_dsetd ?_)
  | (with_reducible refine WDict.g_disp ?_)
  | (with_reducible refine WDict.g_pair ?_)
  | (with_reducible refine WDict.g_pair0 ?_)
  | (with_reducible refine WDict.g_tru ?_))
/-- outputs: the row's address, the name, its list's address, the literals -/
abbrev Outs := List (Addr × Str × Addr × List Int)
def outv (r : Outs) : List V := r.map fun t => V.ref t.1
def told (r : Outs) : List (Str × List Int) := r.map fun t => (t.2.1, t.2.2.2)
def OutAt (H : Hp) (r : Outs) : Prop := ∀ t ∈ r, H t.1 = some (.tup [.str t.2.1, .ref t.2.2.1]) ∧ H t.2.2.1 = some (.lst (t.2.2.2.map V.int))
def OutOk (r : Outs) : Prop := r.length ≤ 1000 ∧ ∀ t ∈ r, t.2.2.2.length ≤ 1000
theorem OutAt.same {H H' : Hp} {r : Outs} (s : Same H H') (h : OutAt H r) : OutAt H' r := fun t ht => ⟨s _ _ (h t ht).1, s _ _ (h t ht).2⟩
theorem OutAt.nil {H : Hp} : OutAt H [] := fun _ ht => by cases ht
/-- a row more, the list at D grown: D stands in no row -/
theorem out_end {D a q : Addr} {H0 H' H2 : Hp} {r : Outs} {n : Str} {l : List Int} (nD : H0 D = none) (s : Same H0 H') (hD : H' D = some (.lst (outv r))) (hr : OutAt H' r) (s2 : Same H' H2) (ha : H2 a = some (.tup [.str n, .ref q])) (hq : H2 q = some (.lst (l.map V.int))) (hqD : q ≠ D) (hd : ∀ t ∈ r, t.2.2.1 ≠ D) :
    H2 D = some (.lst (outv r)) ∧ upd H2 D (.lst (outv r ++ [.ref a])) D = some (.lst (outv (r ++ [(a, n, q, l)]))) ∧ OutAt (upd H2 D (.lst (outv r ++ [.ref a]))) (r ++ [(a, n, q, l)]) ∧ Same H0 (upd H2 D (.lst (outv r ++ [.ref a]))) := by
  have hD2 := s2 _ _ hD
  refine ⟨hD2, by rw [upd_same, outv, outv, List.map_append]; rfl, fun t ht => ?_, fun b x hb => by rw [upd_ne (ne_of_none hb nD)]; exact s2 _ _ (s _ _ hb)⟩
  rcases List.mem_append.mp ht with ht | ht
  · have h1 := s2 _ _ (hr t ht).1
    have h2 := s2 _ _ (hr t ht).2
    have n1 : t.1 ≠ D := fun e => by rw [e, hD2] at h1; cases h1
    rw [upd_ne n1, upd_ne (hd t ht)]
    exact ⟨h1, h2⟩
  · rw [List.mem_singleton.mp ht]
    have n1 : a ≠ D := fun e => by rw [e, hD2] at ha; cases ha
    show upd H2 D _ a = _ ∧ upd H2 D _ q = _
    rw [upd_ne n1, upd_ne hqD]
    exact ⟨ha, hq⟩
def spOuts (C : Addr) : Sp := fun vs H Q _ => ∃ (g : Addr) (G : Gr) (r : Outs), vs = [.ref g] ∧ GA C H g G ∧ G.outs = outv r ∧ OutAt H r ∧ OutOk r ∧ ∀ p r' H', H p = none → Same H H' → H' p = some (.lst (outv r')) → OutAt H' r' → told r' = told r → (∀ t ∈ r', H t.2.2.1 = none) → Q (.ref p) H'
variable {P : Program} {w : World} {K : PySem.W.Frag} {mg : Str → Option Value} {base : Heap} {dA : Nat → Addr}
theorem ok_Graph_outputs (T : Txt K mg dA)  {f : Addr} {fd : FuncData} (F : Fun K "outputs" "Graph.outputs" s_Graph_outputs f fd) : FnOk P w K mg base CX0 1 f fd ["self"] (spOuts (dA 200)) := by
  refine F.ok sc_Graph_outputs (fun vs H Q E h => ?_) (fun cdv A outer s H vs Q E hr h => ?_)
  · obtain ⟨g, G, r, rfl, _⟩ := h
    rfl
  obtain ⟨g, G, r, rfl, ⟨dx, li, lr, la, lo, hg, hi, hre, ha, ho⟩, hG, hrw, hok, q⟩ := h
  refine ⟨_, (pss_one (ps_ret (pe_lc (own := [("name", 1), ("literals", 2)]) rfl sc_Graph_outputs.nd (kpi_list K (WOwn.pe_fl T.cl_Graph T.na_Graph__outputs (pv 0))) (blkOk_by (own := [("name", 1), ("literals", 2)]) (N := ["self", "name", "literals"]) (sc := defScope s_Graph_outputs) (by decide +kernel)) (fun _ _ _ _ _ => (kpg_tup K (n := 2) (by rfl) (pgs_cons (pg_name (i := 1) sc_Graph_outputs.nd rfl (.inl rfl)) (pgs_cons (pg_name (i := 2) sc_Graph_outputs.nd rfl (.inl rfl)) pgs_nil)))) (fun _ _ _ _ _ => pts_nil) (fun _ _ _ _ _ => (pe_tup (pa_cons (pv 1) (pa_cons (pe_callTy (kcall_list_of K) (by rfl) T.b_list (by decide +kernel) (pa_cons (pv 2) pa_nil)) pa_nil))))))), ?_⟩
  rw [show (L2.start ["self", "name", "literals"] [.ref g] : L2.St) = [some (.ref g), none, none] from rfl]
  try simp only [WL.cxK]
  rw [hG] at ho
  walk_at "go"
  refine WOwn.g_flR hg rfl ?_
  walk_at "go"
  refine f_lcL (SqL.of ho) (fun D i H' => ∃ r2 : Outs, H' D = some (.lst (outv r2)) ∧ OutAt H' r2 ∧ told r2 = told (r.take i) ∧ Same H H' ∧ ∀ t ∈ r2, t.2.2.1 ≠ D ∧ H t.2.2.1 = none) (fun D nD => ⟨[], upd_same, OutAt.nil, rfl, same_new nD, fun _ ht => by cases ht⟩) (fun D i H' nD _ ⟨_, _, _, _, s', _⟩ => SqL.of (s' _ _ ho)) (fun D i x H' nD hx hP => ?_) (fun D H' nD hP => ?_)
  · obtain ⟨r2, hD, hr2, hm, s3, hdd⟩ := hP
    obtain ⟨t, ht, rfl⟩ := map_atG hx
    have htm := List.mem_of_getElem? ht
    obtain ⟨hrow, hlits⟩ := hrw t htm
    have hrow := s3 _ _ hrow
    have hlits := s3 _ _ hlits
    have hl2 : r2.length ≤ 1000 := by have := congrArg List.length hm; simp [told] at this; have := hok.1; omega
    have hl3 := hok.2 t htm
    walk_at "go"
    refine ⟨t.1, _, rfl, SqT.of hrow, rfl, ?_⟩
    walk_at "go"
    refine ⟨rfl, ?_⟩
    walk_at "go"
    intro q1 n1
    walk_at "go"
    refine ⟨sz_le (n := 2) (by decide), fun a1 n2 => ?_⟩
    have s4 : Same H' (upd (upd H' q1 (.lst (t.2.2.2.map V.int))) a1 (.tup [.str t.2.1, .ref q1])) := (same_new n1).trans (same_new n2)
    have hqD : q1 ≠ D := fun e => by rw [e, hD] at n1; cases n1
    obtain ⟨o1, o2, o3, o4⟩ := out_end nD s3 hD hr2 s4 (a := a1) (q := q1) (n := t.2.1) (l := t.2.2.2) upd_same (same_new n2 _ _ upd_same) hqD fun u hu => (hdd u hu).1
    have nq : H q1 = none := by
      cases e : H q1 with
      | none => rfl
      | some o => rw [s3 _ _ e] at n1; cases n1
    refine ⟨outv r2, o1, by rw [outv, List.length_map]; exact Nat.lt_of_le_of_lt hl2 (by decide), _, o2, o3, ?_, o4, fun u hu => ?_⟩
    · rw [told, List.map_append, ← told, hm, List.take_succ, ht, told, told, List.map_append]
      rfl
    · rcases List.mem_append.mp hu with hu | hu
      · exact hdd u hu
      · rw [List.mem_singleton.mp hu]
        exact ⟨hqD, nq⟩
  · obtain ⟨r2, hD, hr2, hm, s3, hdd⟩ := hP
    rw [outv, List.length_map, List.take_length] at hm
    exact q D r2 H' nD s3 hD hr2 hm fun t ht => (hdd t ht).2
end K22
set_option Elab.async false
set_option linter.all false
set_option maxRecDepth 100000
set_option maxHeartbeats 4000000
namespace K22
open PySem PySem.Spec PyProof.Rows L2 WL
local macro_rules | `(tactic| walk_at "lk") => `(tactic| first
  | apply upd_same
  | assumption
  | (rw [upd_ne (by assumption)]; first | exact upd_same | assumption | (rw [upd_ne (by assumption)]; first | exact upd_same | assumption | (rw [upd_ne (by assumption)]; first | exact upd_same | assumption))))
local macro_rules | `(tactic| walk_at "go1") => `(tactic| first
  | (with_reducible refine g_seq ?_)
  | (with_reducible refine g_asg ?_)
  | (with_reducible refine g_name ?_)
  | (with_reducible refine g_sub ?_)
  | ((with_reducible refine' g_var ?gv ?_); (case gv => apply Eq.refl))
  | (with_reducible refine g_c ?_)
  | (with_reducible refine g_op ?_)
  | (with_reducible refine g_un ?_)
  | (with_reducible refine g_I0 ?_)
  | ((with_reducible refine g_I ?gc ?_); (case gc => first | assumption | decide | (show (0 : Int) < _; omega) | refine Or.inr ⟨by omega, by omega⟩ | refine Or.inl ⟨by omega, by omega⟩ | refine ⟨by omega, by omega⟩))
  | (with_reducible refine iteT ?_)
  | (with_reducible refine iteF ?_)
  | (with_reducible refine iteNT ?_)
  | (with_reducible refine iteNF ?_)
  | (with_reducible refine g_andV ?_)
  | (with_reducible refine g_orV ?_)
  | ((with_reducible refine' g_lenS (by assumption) ?_))
  | ((with_reducible refine' g_lenS (SqL.of (by walk_at "lk")) ?_))
  | (with_reducible refine g_U ?_)
  | ((with_reducible refine' g_eq ?gs ?_); (case gs => rfl))
  | ((with_reducible refine g_ne ?gs ?_); (case gs => rfl))
  | (with_reducible refine g_drop ?_)
  | (with_reducible refine g_ret ?_)
  | (with_reducible refine g_next ?_)
  | (with_reducible refine g_ifS ?_)
  | (with_reducible refine g_ifE ?_)
  | (with_reducible refine g_test ?_)
  | (with_reducible refine g_tb ?_)
  | (with_reducible refine g_bl ?_)
  | (with_reducible refine g_not ?_)
  | (with_reducible refine g_and ?_)
  | (with_reducible refine g_or ?_)
  | (with_reducible refine g_nil ?_)
  | (with_reducible refine g_cons ?_)
  | (with_reducible refine g_cb ?_)
  | (with_reducible refine g_call ?_)
  | (with_reducible refine g_int ?_)
  | (with_reducible refine g_two ?_)
  | ((with_reducible refine g_lenStr ?gz ?_); (case gz => first | assumption | exact sz_le (by omega)))
  | (with_reducible refine g_m1 ?_)
  | (with_reducible refine g_isS ?_)
  | (with_reducible refine g_nn ?_)
  | (with_reducible refine g_yes ?_)
  | (with_reducible refine g_for ?_)
  | (with_reducible refine g_ckw ?_)
  | (with_reducible refine g_chain ?_)
  | (with_reducible refine g_gcons ?_)
  | (with_reducible refine g_gnil ?_)
  | (with_reducible refine g_notV ?_)
  | (with_reducible refine g_iZip ?_)
  | (with_reducible refine g_lc ?_)
  | (with_reducible refine g_lc2 ?_)
  | (with_reducible refine g_iList ?_)
  | (with_reducible refine g_iRng1 ?_)
  | (with_reducible refine g_iRng2 ?_)
  | (with_reducible refine g_sl ?_)
  | (with_reducible refine g_noPart ?_)
  | (with_reducible refine g_part ?_)
  | (with_reducible refine g_ex1 ?_)
  | (with_reducible refine g_bm ?_)
  | ((with_reducible refine' g_tyL (by walk_at "lk") ?_))
  | ((with_reducible refine' g_aug ?gv ?_); (case gv => exact rfl))
  | (with_reducible refine g_ipI ?_)
  | (with_reducible refine g_turn ?_)
  | (with_reducible refine g_brk ?_)
  | (with_reducible refine g_cont ?_)
  | (with_reducible refine g_sign ?_)
  | (with_reducible refine g_lst ?_)
  | (with_reducible refine g_tup ?_)
  | ((with_reducible refine' g_ixL (by assumption) ?ga ?_); (case ga => assumption))
  | ((with_reducible refine' g_ixL (SqL.of (by walk_at "lk")) ?ga ?_); (case ga => first | exact rfl | assumption))
  | ((with_reducible refine' g_ixT (SqT.of (by walk_at "lk")) ?ga ?_); (case ga => first | exact rfl | assumption))
  | ((with_reducible refine' g_lenT (SqT.of (by walk_at "lk")) ?_))
  | ((with_reducible refine' g_isiS (b := true) ?ga ?_); (case ga => decide +kernel))
  | ((with_reducible refine' g_isiS (b := false) ?ga ?_); (case ga => decide +kernel))
  | ((with_reducible refine' g_isiI (b := true) ?ga ?_); (case ga => decide +kernel))
  | ((with_reducible refine' g_isiI (b := false) ?ga ?_); (case ga => decide +kernel))
  | ((with_reducible refine' g_setL2 ?ga ?gb ?_); (case ga => exact rfl); (case gb => exact rfl))
  | ((with_reducible refine' g_setL (by walk_at "lk") ?ga ?gb ?_); (case ga => exact rfl); (case gb => exact rfl)))
local macro_rules | `(tactic| walk_at "go") => `(tactic| ((repeat walk_at "go1"); try dsimp only [List.set, List.cons_append, List.nil_append]))
local macro_rules | `(tactic| walk_at "go1") => `(tactic| first
  | (with_reducible refine WOwn.g_fl ?_)
  | (with_reducible refine WOwn.g_sfl ?_)
  | (with_reducible refine WOwn.g_make ?_)
  | (with_reducible refine WOwn.g_meth ?_)
  | (with_reducible refine WOwn.g_sm ?_)
  | (with_reducible refine WOwn.g_cv ?_))
local macro_rules | `(tactic| walk_at "go1") => `(tactic| first
  | (with_reducible refine WDict.g_dget ?_)
  | (with_reducible refine WDict.g_din ?_)
  | (with_reducible refine WDict.g_dnotin ?_)
  | (with_reducible refine WDict.g_dput ?_)
  | (with_reducible refine WDict.g_dnew ?_)
  | (with_reducible refine WDict.g_dget2 ?_)
  | (with_reducible refine WDict.g_dsetd ?_)
  | (with_reducible refine WDict.g_disp ?_)
  | (with_reducible refine WDict.g_pair ?_)
  | (with_reducible refine WDict.g_pair0 ?_)
  | (with_reducible refine WDict.g_tru ?_))
def spMkG (C : Addr) : Sp := fun vs H Q _ => ∃ (x dx li lr la lo : Addr) (i0 r0 a0 : List V) (r : Outs), vs = [.ref x, .ref li, .ref lr, .ref la, .ref lo] ∧ H x = some (.ins C dx []) ∧ H li = some (.lst i0) ∧ H lr = some (.lst r0) ∧ H la = some (.lst a0) ∧ H lo = some (.lst (outv r)) ∧ OutAt H r ∧ OutOk r ∧
  ∀ r' H', Kp x H H' → GA C H' x ⟨i0, r0, a0, outv r'⟩ → OutAt H' r' → told r' = told r → Q .non H'
theorem ne_ins {C x a dx : Addr} {H : Hp} {fs : List (Str × V)} {xs : List V} (hx : H x = some (.ins C dx fs)) (ha : H a = some (.lst xs)) : a ≠ x := by
  rintro rfl
  rw [hx] at ha
  cases ha
theorem ne_insT {C x a dx : Addr} {H : Hp} {fs : List (Str × V)} {xs : List V} (hx : H x = some (.ins C dx fs)) (ha : H a = some (.tup xs)) : a ≠ x := by
  rintro rfl
  rw [hx] at ha
  cases ha
theorem OutAt.kp {C x dx : Addr} {H H' : Hp} {fs : List (Str × V)} {r : Outs} (k : Kp x H H') (hx : H x = some (.ins C dx fs)) (h : OutAt H r) : OutAt H' r := fun t ht => ⟨k _ _ (h t ht).1 (ne_insT hx (h t ht).1), k _ _ (h t ht).2 (ne_ins hx (h t ht).2)⟩
variable {P : Program} {w : World} {K : PySem.W.Frag} {mg : Str → Option Value} {base : Heap} {dA : Nat → Addr}
theorem ok_Graph___init__ (T : Txt K mg dA)  {f : Addr} {fd : FuncData} (F : Fun K "__init__" "Graph.__init__" s_Graph___init__ f fd) : FnOk P w K mg base CX0 1 f fd ["self", "inputs", "regs", "ands", "outputs"] (spMkG (dA 200)) := by
  refine F.ok sc_Graph___init__ (fun vs H Q E h => ?_) (fun cdv A outer s H vs Q E hr h => ?_)
  · obtain ⟨x, dx, li, lr, la, lo, i0, r0, a0, r, rfl, _⟩ := h
    rfl
  obtain ⟨x, dx, li, lr, la, lo, i0, r0, a0, r, rfl, hx, hi, hre, ha, ho, hrw, hok, q⟩ := h
  refine ⟨_, (pss_cons (WOwn.ps_fl T.cl_Graph T.na_Graph__inputs (pv 0) (pe_callTy (kcall_list_of K) (by rfl) T.b_list (by decide +kernel) (pa_cons (pv 1) pa_nil)))
      (pss_cons (WOwn.ps_fl T.cl_Graph T.na_Graph__regs (pv 0) (pe_callTy (kcall_list_of K) (by rfl) T.b_list (by decide +kernel) (pa_cons (pv 2) pa_nil)))
      (pss_cons (WOwn.ps_fl T.cl_Graph T.na_Graph__ands (pv 0) (pe_callTy (kcall_list_of K) (by rfl) T.b_list (by decide +kernel) (pa_cons (pv 3) pa_nil)))
      (pss_one (WOwn.ps_fl T.cl_Graph T.na_Graph__outputs (pv 0) (pe_lc (own := [("name", 5), ("literals", 6)]) rfl sc_Graph___init__.nd (kpi_list K (pv 4)) (blkOk_by (own := [("name", 5), ("literals", 6)]) (N := ["self", "inputs", "regs", "ands", "outputs", "name", "literals"]) (sc := defScope s_Graph___init__) (by decide +kernel)) (fun _ _ _ _ _ => (kpg_tup K (n := 2) (by rfl) (pgs_cons (pg_name (i := 5) sc_Graph___init__.nd rfl (.inl rfl)) (pgs_cons (pg_name (i := 6) sc_Graph___init__.nd rfl (.inl rfl)) pgs_nil)))) (fun _ _ _ _ _ => pts_nil) (fun _ _ _ _ _ => (pe_tup (pa_cons (pv 5) (pa_cons (pe_callTy (kcall_list_of K) (by rfl) T.b_list (by decide +kernel) (pa_cons (pv 6) pa_nil)) pa_nil)))))))))), ?_⟩
  rw [show (L2.start ["self", "inputs", "regs", "ands", "outputs", "name", "literals"] [.ref x, .ref li, .ref lr, .ref la, .ref lo] : L2.St) = [some (.ref x), some (.ref li), some (.ref lr), some (.ref la), some (.ref lo), none, none] from rfl]
  try simp only [WL.cxK]
  walk_at "go"
  intro l1 n1
  walk_at "go"
  refine WOwn.g_sflR (same_new n1 _ _ hx) (by exact (by decide : (0 : Nat) < 1000)) ?_
  have k1 : Kp x H (upd (upd H l1 (.lst i0)) x (.ins (dA 200) dx (putF "_inputs" (.ref l1) []))) := (Kp.same (same_new n1)).set
  have f1_1 : (upd (upd H l1 (.lst i0)) x (.ins (dA 200) dx (putF "_inputs" (.ref l1) []))) l1 = some (.lst i0) := by
    rw [upd_ne (ne_ins (xs := i0) (same_new n1 _ _ hx) upd_same)]; exact upd_same
  have x1 : (upd (upd H l1 (.lst i0)) x (.ins (dA 200) dx (putF "_inputs" (.ref l1) []))) x = some (.ins (dA 200) dx [("_inputs", V.ref l1)]) := upd_same
  generalize upd (upd H l1 (.lst i0)) x (.ins (dA 200) dx (putF "_inputs" (.ref l1) [])) = H1 at k1 f1_1 x1 ⊢
  have hre1 := k1 _ _ hre (ne_ins hx hre)
  walk_at "go"
  try (intro l2 n2; walk_at "go")
  refine WOwn.g_sflR (same_new n2 _ _ x1) (by exact (by decide : (1 : Nat) < 1000)) ?_
  have k2 : Kp x H (upd (upd H1 l2 (.lst r0)) x (.ins (dA 200) dx (putF "_regs" (.ref l2) [("_inputs", V.ref l1)]))) := (k1.new n2).set
  have f2_2 : (upd (upd H1 l2 (.lst r0)) x (.ins (dA 200) dx (putF "_regs" (.ref l2) [("_inputs", V.ref l1)]))) l2 = some (.lst r0) := by
    rw [upd_ne (ne_ins (xs := r0) (same_new n2 _ _ x1) upd_same)]; exact upd_same
  have f2_1 : (upd (upd H1 l2 (.lst r0)) x (.ins (dA 200) dx (putF "_regs" (.ref l2) [("_inputs", V.ref l1)]))) l1 = some (.lst i0) := by
    rw [upd_ne (ne_ins x1 f1_1)]; exact same_new n2 _ _ f1_1
  have x2 : (upd (upd H1 l2 (.lst r0)) x (.ins (dA 200) dx (putF "_regs" (.ref l2) [("_inputs", V.ref l1)]))) x = some (.ins (dA 200) dx [("_inputs", V.ref l1), ("_regs", V.ref l2)]) := upd_same
  generalize upd (upd H1 l2 (.lst r0)) x (.ins (dA 200) dx (putF "_regs" (.ref l2) [("_inputs", V.ref l1)])) = H2 at k2 f2_1 f2_2 x2 ⊢
  have ha2 := k2 _ _ ha (ne_ins hx ha)
  walk_at "go"
  try (intro l3 n3; walk_at "go")
  refine WOwn.g_sflR (same_new n3 _ _ x2) (by exact (by decide : (2 : Nat) < 1000)) ?_
  have k3 : Kp x H (upd (upd H2 l3 (.lst a0)) x (.ins (dA 200) dx (putF "_ands" (.ref l3) [("_inputs", V.ref l1), ("_regs", V.ref l2)]))) := (k2.new n3).set
  have f3_3 : (upd (upd H2 l3 (.lst a0)) x (.ins (dA 200) dx (putF "_ands" (.ref l3) [("_inputs", V.ref l1), ("_regs", V.ref l2)]))) l3 = some (.lst a0) := by
    rw [upd_ne (ne_ins (xs := a0) (same_new n3 _ _ x2) upd_same)]; exact upd_same
  have f3_1 : (upd (upd H2 l3 (.lst a0)) x (.ins (dA 200) dx (putF "_ands" (.ref l3) [("_inputs", V.ref l1), ("_regs", V.ref l2)]))) l1 = some (.lst i0) := by
    rw [upd_ne (ne_ins x2 f2_1)]; exact same_new n3 _ _ f2_1
  have f3_2 : (upd (upd H2 l3 (.lst a0)) x (.ins (dA 200) dx (putF "_ands" (.ref l3) [("_inputs", V.ref l1), ("_regs", V.ref l2)]))) l2 = some (.lst r0) := by
    rw [upd_ne (ne_ins x2 f2_2)]; exact same_new n3 _ _ f2_2
  have x3 : (upd (upd H2 l3 (.lst a0)) x (.ins (dA 200) dx (putF "_ands" (.ref l3) [("_inputs", V.ref l1), ("_regs", V.ref l2)]))) x = some (.ins (dA 200) dx [("_inputs", V.ref l1), ("_regs", V.ref l2), ("_ands", V.ref l3)]) := upd_same
  generalize upd (upd H2 l3 (.lst a0)) x (.ins (dA 200) dx (putF "_ands" (.ref l3) [("_inputs", V.ref l1), ("_regs", V.ref l2)])) = H3 at k3 f3_1 f3_2 f3_3 x3 ⊢
  have ho3 := k3 _ _ ho (ne_ins hx ho)
  have hr3 := hrw.kp k3 hx
  walk_at "go"
  refine f_lcL (SqL.of ho3) (fun D i H' => ∃ r2 : Outs, H' D = some (.lst (outv r2)) ∧ OutAt H' r2 ∧ told r2 = told (r.take i) ∧ Same H3 H' ∧ ∀ t ∈ r2, t.2.2.1 ≠ D ∧ H3 t.2.2.1 = none) (fun D nD => ⟨[], upd_same, OutAt.nil, rfl, same_new nD, fun _ ht => by cases ht⟩) (fun D i H' nD _ ⟨_, _, _, _, s', _⟩ => SqL.of (s' _ _ ho3)) (fun D i x H' nD hx hP => ?_) (fun D H' nD hP => ?_)
  · obtain ⟨r2, hD, hr2, hm, s5, hdd⟩ := hP
    obtain ⟨t, ht, rfl⟩ := map_atG hx
    have htm := List.mem_of_getElem? ht
    obtain ⟨hrow, hlits⟩ := hr3 t htm
    have hrow := s5 _ _ hrow
    have hlits := s5 _ _ hlits
    have hl2 : r2.length ≤ 1000 := by have := congrArg List.length hm; simp [told] at this; have := hok.1; omega
    have hl3 := hok.2 t htm
    walk_at "go"
    refine ⟨t.1, _, rfl, SqT.of hrow, rfl, ?_⟩
    walk_at "go"
    refine ⟨rfl, ?_⟩
    walk_at "go"
    intro q1 m1
    walk_at "go"
    refine ⟨sz_le (n := 2) (by decide), fun a1 m2 => ?_⟩
    have s4 : Same H' (upd (upd H' q1 (.lst (t.2.2.2.map V.int))) a1 (.tup [.str t.2.1, .ref q1])) := (same_new m1).trans (same_new m2)
    have hqD : q1 ≠ D := fun e => by rw [e, hD] at m1; cases m1
    obtain ⟨o1, o2, o3, o4⟩ := out_end nD s5 hD hr2 s4 (a := a1) (q := q1) (n := t.2.1) (l := t.2.2.2) upd_same (same_new m2 _ _ upd_same) hqD fun u hu => (hdd u hu).1
    have nq : H3 q1 = none := by
      cases e : H3 q1 with
      | none => rfl
      | some o => rw [s5 _ _ e] at m1; cases m1
    refine ⟨outv r2, o1, by rw [outv, List.length_map]; exact Nat.lt_of_le_of_lt hl2 (by decide), _, o2, o3, ?_, o4, fun u hu => ?_⟩
    · rw [told, List.map_append, ← told, hm, List.take_succ, ht, told, told, List.map_append]
      rfl
    · rcases List.mem_append.mp hu with hu | hu
      · exact hdd u hu
      · rw [List.mem_singleton.mp hu]
        exact ⟨hqD, nq⟩
  obtain ⟨r2, hD, hr2, hm, s5, hdd⟩ := hP
  rw [outv, List.length_map, List.take_length] at hm
  have x4 := s5 _ _ x3
  have g1 := s5 _ _ f3_1
  have g2 := s5 _ _ f3_2
  have g3 := s5 _ _ f3_3
  walk_at "go"
  refine WOwn.g_sflR x4 (by exact (by decide : (3 : Nat) < 1000)) ?_
  refine q r2 _ (k3.trans (Kp.same s5)).set ⟨dx, l1, l2, l3, D, upd_same, ?_, ?_, ?_, ?_⟩ (hr2.kp (Kp.refl H').set x4) hm
  · rw [upd_ne (ne_ins x4 g1)]; exact g1
  · rw [upd_ne (ne_ins x4 g2)]; exact g2
  · rw [upd_ne (ne_ins x4 g3)]; exact g3
  · rw [upd_ne (ne_ins x4 hD)]; exact hD
end K22
set_option Elab.async false
set_option linter.all false
set_option maxRecDepth 100000
set_option maxHeartbeats 4000000
namespace K22
open PySem PySem.Spec PyProof.Rows L2 WL
local macro_rules | `(tactic| walk_at "lk") => `(tactic| first
  | apply upd_same
  | assumption
  | (rw [upd_ne (by assumption)]; first | exact upd_same | assumption | (rw [upd_ne (by assumption)]; first | exact upd_same | assumption | (rw [upd_ne (by assumption)]; first | exact upd_same | assumption))))
local macro_rules | `(tactic| walk_at "go1") => `(tactic| first
  | (with_reducible refine g_seq ?_)
  | (with_reducible refine g_asg ?_)
  | (with_reducible refine g_name ?_)
  | (with_reducible refine g_sub ?_)
  | ((with_reducible refine' g_var ?gv ?_); (case gv => apply Eq.refl))
  | (with_reducible refine g_c ?_)
  | (with_reducible refine g_op ?_)
  | (with_reducible refine g_un ?_)
  | (with_reducible refine g_I0 ?_)
  | ((with_reducible refine g_I ?gc ?_); (case gc => first | assumption | decide | (show (0 : Int) < _; omega) | refine Or.inr ⟨by omega, by omega⟩ | refine Or.inl ⟨by omega, by omega⟩ | refine ⟨by omega, by omega⟩))
  | (with_reducible refine iteT ?_)
  | (with_reducible refine iteF ?_)
  | (with_reducible refine iteNT ?_)
  | (with_reducible refine iteNF ?_)
  | (with_reducible refine g_andV ?_)
  | (with_reducible refine g_orV ?_)
  | ((with_reducible refine' g_lenS (by assumption) ?_))
  | ((with_reducible refine' g_lenS (SqL.of (by walk_at "lk")) ?_))
  | (with_reducible refine g_U ?_)
  | ((with_reducible refine' g_eq ?gs ?_); (case gs => rfl))
  | ((with_reducible refine g_ne ?gs ?_); (case gs => rfl))
  | (with_reducible refine g_drop ?_)
  | (with_reducible refine g_ret ?_)
  | (with_reducible refine g_next ?_)
  | (with_reducible refine g_ifS ?_)
  | (with_reducible refine g_ifE ?_)
  | (with_reducible refine g_test ?_)
  | (with_reducible refine g_tb ?_)
  | (with_reducible refine g_bl ?_)
  | (with_reducible refine g_not ?_)
  | (with_reducible refine g_and ?_)
  | (with_reducible refine g_or ?_)
  | (with_reducible refine g_nil ?_)
  | (with_reducible refine g_cons ?_)
  | (with_reducible refine g_cb ?_)
  | (with_reducible refine g_call ?_)
  | (with_reducible refine g_int ?_)
  | (with_reducible refine g_two ?_)
  | ((with_reducible refine g_lenStr ?gz ?_); (case gz => first | assumption | exact sz_le (by omega)))
  | (with_reducible refine g_m1 ?_)
  | (with_reducible refine g_isS ?_)
  | (with_reducible refine g_nn ?_)
  | (with_reducible refine g_yes ?_)
  | (with_reducible refine g_for ?_)
  | (with_reducible refine g_ckw ?_)
  | (with_reducible refine g_chain ?_)
  | (with_reducible refine g_gcons ?_)
  | (with_reducible refine g_gnil ?_)
  | (with_reducible refine g_notV ?_)
  | (with_reducible refine g_iZip ?_)
  | (with_reducible refine g_lc ?_)
  | (with_reducible refine g_lc2 ?_)
  | (with_reducible refine g_iList ?_)
  | (with_reducible refine g_iRng1 ?_)
  | (with_reducible refine g_iRng2 ?_)
  | (with_reducible refine g_sl ?_)
  | (with_reducible refine g_noPart ?_)
  | (with_reducible refine g_part ?_)
  | (with_reducible refine g_ex1 ?_)
  | (with_reducible refine g_bm ?_)
  | ((with_reducible refine' g_tyL (by walk_at "lk") ?_))
  | ((with_reducible refine' g_aug ?gv ?_); (case gv => exact rfl))
  | (with_reducible refine g_ipI ?_)
  | (with_reducible refine g_turn ?_)
  | (with_reducible refine g_brk ?_)
  | (with_reducible refine g_cont ?_)
  | (with_reducible refine g_sign ?_)
  | (with_reducible refine g_lst ?_)
  | (with_reducible refine g_tup ?_)
  | ((with_reducible refine' g_ixL (by assumption) ?ga ?_); (case ga => assumption))
  | ((with_reducible refine' g_ixL (SqL.of (by walk_at "lk")) ?ga ?_); (case ga => first | exact rfl | assumption))
  | ((with_reducible refine' g_ixT (SqT.of (by walk_at "lk")) ?ga ?_); (case ga => first | exact rfl | assumption))
  | ((with_reducible refine' g_lenT (SqT.of (by walk_at "lk")) ?_))
  | ((with_reducible refine' g_isiS (b := true) ?ga ?_); (case ga => decide +kernel))
  | ((with_reducible refine' g_isiS (b := false) ?ga ?_); (case ga => decide +kernel))
  | ((with_reducible refine' g_isiI (b := true) ?ga ?_); (case ga => decide +kernel))
  | ((with_reducible refine' g_isiI (b := false) ?ga ?_); (case ga => decide +kernel))
  | ((with_reducible refine' g_setL2 ?ga ?gb ?_); (case ga => exact rfl); (case gb => exact rfl))
  | ((with_reducible refine' g_setL (by walk_at "lk") ?ga ?gb ?_); (case ga => exact rfl); (case gb => exact rfl)))
local macro_rules | `(tactic| walk_at "go") => `(tactic| ((repeat walk_at "go1"); try dsimp only [List.set, List.cons_append, List.nil_append]))
local macro_rules | `(tactic| walk_at "go1") => `(tactic| first
  | (with_reducible refine WOwn.g_fl ?_)
  | (with_reducible refine WOwn.g_sfl ?_)
  | (with_reducible refine WOwn.g_make ?_)
  | (with_reducible refine WOwn.g_meth ?_)
  | (with_reducible refine WOwn.g_sm ?_)
  | (with_reducible refine WOwn.g_cv ?_))
local macro_rules | `(tactic| walk_at "go1") => `(tactic| first
  | (with_reducible refine WDict.g_dget ?_)
  | (with_reducible refine WDict.g_din ?_)
  | (with_reducible refine WDict.g_dnotin ?_)
  | (with_reducible refine WDict.g_dput ?_)
  | (with_reducible refine WDict.g_dnew ?_)
  | (with_reducible refine WDict.g_dget2 ?_)
  | (with_reducible refine WDict.g_dsetd ?_)
  | (with_reducible refine WDict.g_disp ?_)
  | (with_reducible refine WDict.g_pair ?_)
  | (with_reducible refine WDict.g_pair0 ?_)
  | (with_reducible refine WDict.g_tru ?_))
local macro_rules | `(tactic| walk_at "go1") => `(tactic| first
  | (with_reducible refine g_iEnum ?_)
  | (with_reducible refine g_iTup ?_)
  | (with_reducible refine g_bm0 ?_)
  | ((with_reducible refine' g_gTup (SqT.of (by walk_at "lk")) ?gn ?_); (case gn => exact rfl)))
/-- the rows of the ANDs: the address, the pair -/
abbrev Pairs := List (Addr × Nat × Nat)
def PrAt (H : Hp) (r : Pairs) : Prop := ∀ t ∈ r, H t.1 = some (.tup [.int (t.2.1 : Int), .int (t.2.2 : Int)])
theorem PrAt.same {H H' : Hp} {r : Pairs} (s : Same H H') (h : PrAt H r) : PrAt H' r := fun t ht => s _ _ (h t ht)
def GOk (C : Addr) (H : Hp) (g : Addr) (b : Nat) (r : Pairs) : Prop := ∃ (G : Gr) (rows : Rows), GA C H g G ∧ G.ins = rows.map (fun t => V.ref t.1) ∧ InsAt H rows ∧ rows.length ≤ 1000 ∧ G.regs.length ≤ 1000 ∧ 1 + (rows.map fun t => t.2.2).sum + (G.regs.length : Int) = (b : Int) ∧ G.ands = r.map (fun t => V.ref t.1) ∧ PrAt H r
theorem GOk.same {C g : Addr} {H H' : Hp} {b : Nat} {r : Pairs} (s : Same H H') (h : GOk C H g b r) : GOk C H' g b r := let ⟨G, rows, a1, a2, a3, a4, a5, a6, a7, a8⟩ := h; ⟨G, rows, a1.same s, a2, fun t ht => s _ _ (a3 t ht), a4, a5, a6, a7, a8.same s⟩
def ROk (b : Nat) (r : Pairs) : Prop := b ≤ 1000 ∧ r.length ≤ 1000 ∧ PrOk b (r.map (·.2))
def spCone (C : Addr) : Sp := fun vs H Q _ => ∃ (g : Addr) (b : Nat) (r : Pairs) (top : Nat) (d : Addr) (kvs : List (Key × V)) (stop : Nat → Bool), vs = [.ref g, .int (top : Int), .ref d] ∧ GOk C H g b r ∧ ROk b r ∧ H d = some (.dK kvs) ∧ (∀ n : Nat, stop n = (valV kvs (.inl (n : Int))).isSome) ∧ top < b + r.length ∧
  ∀ (inner leaves : List Nat) (p l1 l2 : Addr) (H' : Hp), Same H H' → H' p = some (.tup [.ref l1, .ref l2]) → H' l1 = some (.lst (nv inner)) → H' l2 = some (.lst (nv leaves)) → H l2 = none → inner.Pairwise (· < ·) → leaves.Pairwise (· < ·) →
    (∀ x, x ∈ inner ↔ Rch (kidF b (r.map (·.2))) stop top x ∧ b ≤ x) → (∀ x, x ∈ leaves ↔ Rch (kidF b (r.map (·.2))) stop top x ∧ 0 < x ∧ x < b) → Q (.ref p) H'
def spLeaves (C : Addr) : Sp := fun vs H Q _ => ∃ (g : Addr) (b : Nat) (r : Pairs) (L : Nat), vs = [.ref g, .int (L : Int)] ∧ GOk C H g b r ∧ ROk b r ∧ L / 2 < b + r.length ∧
  ∀ (leaves : List Nat) (l2 : Addr) (H' : Hp), Same H H' → H' l2 = some (.lst (nv leaves)) → H l2 = none → leaves.Pairwise (· < ·) → (∀ x, x ∈ leaves ↔ Rch (kidF b (r.map (·.2))) (fun _ => false) (L / 2) x ∧ 0 < x ∧ x < b) → Q (.ref l2) H'
def mk (met : List Nat) : List (Key × V) := met.map fun n : Nat => (Sum.inl (n : Int), V.bl true)
theorem valV_mk {met : List Nat} {n : Nat} : (valV (mk met) (.inl (n : Int))).isSome = decide (n ∈ met) := by
  rw [← valV_any]
  induction met with
  | nil => rfl
  | cons a r ih =>
    have ih' : ((mk r).any fun kv => decide (kv.1 = (Sum.inl (n : Int) : Key))) = decide (n ∈ r) := ih
    show (decide ((Sum.inl (a : Int) : Key) = Sum.inl (n : Int)) || (mk r).any fun kv => decide (kv.1 = (Sum.inl (n : Int) : Key))) = _
    rw [ih']
    by_cases e : a = n
    · subst e; simp
    · have : ¬ (Sum.inl (a : Int) : Key) = Sum.inl (n : Int) := fun h => e (by have := Sum.inl.inj h; omega)
      rw [decide_eq_false this]
      simp [Ne.symm e]
theorem putK_mk {met : List Nat} {n : Nat} (h : n ∉ met) : putK (mk met) (.inl (n : Int)) (.bl true) = mk (met ++ [n]) := by
  rw [putK_new _ (by have := valV_mk (met := met) (n := n); rw [decide_eq_false h] at this; simpa using this), mk, mk, List.map_append]
  rfl
theorem mk_len (met : List Nat) : (mk met).length = met.length := List.length_map _
theorem half (n : Nat) : (n : Int) / 2 ^ Int.toNat 1 = ((n / 2 : Nat) : Int) := by rw [show (2 : Int) ^ Int.toNat 1 = 2 from rfl]; omega
theorem free_of {H H' : Hp} {a : Addr} (s : Same H H') (h : H' a = none) : H a = none := by
  cases e : H a with
  | none => rfl
  | some o => rw [s _ _ e] at h; cases h
/-- the loop of the walk down -/
def coneW (g d p dm dw : Addr) (top b : Nat) (r : Pairs) (stop : Nat → Bool) (H2 : Hp) (m : Nat) (s : L2.St) (H' : Hp) : Prop := ∃ (met stack : List Nat) (y1 y2 y3 : Option V), s = [some (.ref g), some (.int (top : Int)), some (.ref d), some (.int (b : Int)), some (.ref p), some (.ref dm), some (.ref dw), y1, y2, y3, none] ∧ Dfs (kidF b (r.map (·.2))) stop top met stack ∧ Same H2 H' ∧ H' dm = some (.dK (mk met)) ∧ H' dw = some (.lst (nv stack)) ∧ met.Nodup ∧ (∀ x ∈ met, x < b + r.length) ∧ (∀ x ∈ stack, x < b + r.length) ∧ stack.length ≤ 2 * met.length + 1 ∧ m = 3 * (b + r.length - met.length) + stack.length
variable {P : Program} {w : World} {K : PySem.W.Frag} {mg : Str → Option Value} {base : Heap} {dA : Nat → Addr}
theorem ok_cone_of (T : Txt K mg dA) (c_first_and : C8.Cal P w K mg base 3 "first_and" (spFirst (dA 200)) []) (c_Graph_ands : C8.Met P w K mg base 1 (dA 200) "ands" (spCopy (dA 200) Gr.ands) []) {f : Addr} {fd : FuncData} (F : Fun K "cone_of" "cone_of" s_cone_of f fd) : FnOk P w K mg base CX0 4 f fd ["graph", "node", "stops"] (spCone (dA 200)) := by
  refine F.ok sc_cone_of (fun vs H Q E h => ?_) (fun cdv A outer s H vs Q E hr h => ?_)
  · obtain ⟨g, b, r, top, d, kvs, stop, rfl, _⟩ := h
    rfl
  obtain ⟨g, b, r, top, d, kvs, stop, rfl, hG, ⟨hb, hl, hok⟩, hd, hst, htop, q⟩ := h
  refine ⟨_, (pss_cons (ps_set (i := 3) sc_cone_of.nd rfl (.inr rfl) (C8.pe_c c_first_and hr (by decide) (by rfl) (pa_cons (pv 0) pa_nil)))
      (pss_cons (ps_set (i := 4) sc_cone_of.nd rfl (.inl rfl) (C8.pe_mt0 c_Graph_ands hr (by decide) (pv 0)))
      (pss_cons (ps_set (i := 5) sc_cone_of.nd rfl (.inl rfl) pe_dnewK)
      (pss_cons (ps_set (i := 6) sc_cone_of.nd rfl (.inl rfl) (pe_lst (pa_cons (pv 1) pa_nil)))
      (Evl.pss_cut (ps_while PassesOwn.never (kpt_truth K (pv 6) (by intro _; rfl)) (pss_cons (ps_set (i := 7) sc_cone_of.nd rfl (.inl rfl) (kpe_bm0 K PySem.F.plainAttrs_list PySem.F.slot_list_pop PySem.F.type_list_pop mt_pop (pv 6)))
      (pss_cons (ps_if (PW.pt (pw_or (pt_cmp (pc_din (hu_of hr) (pv 7) (pv 5))) (pw_or1 (pt_cmp (pc_din (hu_of hr) (pv 7) (pv 2)))))) (pss_one ps_continue) pss_nil)
      (pss_cons (ps_dput (hu_of hr) (pv 5) (pv 7) pe_bl (by rfl))
      (pss_one (ps_if (pt_cmpR op_ge (pv 7) (pv 3) (nomark _)) (pss_cons (ps_asg (pe_ix (kix_list K) (pv 4) (pe_op op_sub (pv 7) (pv 3)) (fun _ _ => rfl)) (kpg_tup K (n := 2) (by rfl) (pgs_cons (pg_name (i := 8) sc_cone_of.nd rfl (.inl rfl)) (pgs_cons (pg_name (i := 9) sc_cone_of.nd rfl (.inl rfl)) pgs_nil))))
      (pss_cons (ps_expr (kpe_bm K PySem.F.plainAttrs_list PySem.F.slot_list_append PySem.F.type_list_append mt_append (pv 6) (pa_cons (pe_op op_shr (pv 8) pe_int) pa_nil)))
      (pss_one (ps_expr (kpe_bm K PySem.F.plainAttrs_list PySem.F.slot_list_append PySem.F.type_list_append mt_append (pv 6) (pa_cons (pe_op op_shr (pv 9) pe_int) pa_nil)))))) pss_nil))))))
      (pss_cons (ps_set (i := 10) sc_cone_of.nd rfl (.inl rfl) (pe_callB (WDict.call_sortedDIw rfl) (by rfl) T.b_sorted (by decide +kernel) (pa_cons (pv 5) pa_nil)))
      (pss_one (ps_ret (pe_tup (pa_cons (pe_lc (own := [("at", 7)]) rfl sc_cone_of.nd (kpi_list K (pv 10)) (blkOk_by (own := [("at", 7)]) (N := ["graph", "node", "stops", "first", "pairs", "met", "waiting", "at", "x", "y", "cone"]) (sc := defScope s_cone_of) (by decide +kernel)) (fun _ _ _ _ _ => (pg_name (i := 7) sc_cone_of.nd rfl (.inl rfl))) (fun _ _ _ _ _ => (pts_one (pt_cmpR op_ge (pv 7) (pv 3) (nomark _)))) (fun _ _ _ _ _ => (pv 7))) (pa_cons (pe_lc (own := [("at", 7)]) rfl sc_cone_of.nd (kpi_list K (pv 10)) (blkOk_by (own := [("at", 7)]) (N := ["graph", "node", "stops", "first", "pairs", "met", "waiting", "at", "x", "y", "cone"]) (sc := defScope s_cone_of) (by decide +kernel)) (fun _ _ _ _ _ => (pg_name (i := 7) sc_cone_of.nd rfl (.inl rfl))) (fun _ _ _ _ _ => (pts_one (pt_chain op_lt op_lt pe_int (pv 7) (pv 3)))) (fun _ _ _ _ _ => (pv 7))) pa_nil))))))))))), ?_⟩
  rw [show (L2.start ["graph", "node", "stops", "first", "pairs", "met", "waiting", "at", "x", "y", "cone"] [.ref g, .int (top : Int), .ref d] : L2.St) = [some (.ref g), some (.int (top : Int)), some (.ref d), none, none, none, none, none, none, none, none] from rfl]
  try simp only [WL.cxK]
  obtain ⟨G, rows, hA, hi1, hi2, hi3, hr1, hsum, ha1, ha2⟩ := hG
  walk_at "go"
  refine ⟨g, G, rows, rfl, hA, hi1, hi2, hi3, hr1, fun H1 s1 => ?_⟩
  rw [hsum]
  have hA1 := hA.same s1
  have hg1 := hA1
  obtain ⟨dx, li, lr, la, lo, hg, _⟩ := hg1
  walk_at "go"
  refine WOwn.g_methR hg rfl ?_
  walk_at "go"
  refine ⟨g, G, rfl, hA1, by rw [ha1, List.length_map]; omega, fun p np => ?_⟩
  have s2 := s1.trans (same_new (o := .lst G.ands) np)
  have hp : upd H1 p (.lst G.ands) p = some (.lst G.ands) := upd_same
  generalize upd H1 p (.lst G.ands) = H2 at s2 hp ⊢
  walk_at "go"
  intro dm ndm
  walk_at "go"
  refine ⟨sz_le (n := 1) (by decide), fun dw ndw => ?_⟩
  have ndw2 : H2 dw = none := (same_new ndm).free ndw
  have nwm : dw ≠ dm := fun e => by rw [e, upd_same] at ndw; cases ndw
  walk_at "go"
  have hN : b + r.length ≤ 2000 := by omega
  refine ⟨fun σ' H' => ∃ (met : List Nat) (y1 y2 y3 : Option V), σ' = [some (.ref g), some (.int (top : Int)), some (.ref d), some (.int (b : Int)), some (.ref p), some (.ref dm), some (.ref dw), y1, y2, y3, none] ∧ Dfs (kidF b (r.map (·.2))) stop top met [] ∧ Same H2 H' ∧ H' dm = some (.dK (mk met)) ∧ met.Nodup ∧ met.length ≤ 2000, ?_, fun σ' H' hW => ?_⟩
  case refine_2 =>
    obtain ⟨met, y1, y2, y3, rfl, hD, s3, hm, hnd, hmet⟩ := hW
    walk_at "go"
    refine ⟨dm, mk met, met.map fun n : Nat => (n : Int), rfl, .inl hm, by rw [mk, List.map_map, List.map_map]; rfl, by rw [List.length_map]; omega, fun ys c hpm hso nc => ?_⟩
    obtain ⟨zs, rfl, hasc, hmem⟩ := asc_of hpm hso hnd
    rw [← nv_int]
    have s4 := s3.trans (same_new (o := .lst (nv zs)) nc)
    have hc : upd H' c (.lst (nv zs)) c = some (.lst (nv zs)) := upd_same
    generalize upd H' c (.lst (nv zs)) = H3 at s4 hc ⊢
    have hz : zs.length ≤ 2000 := by have := hpm.length_eq; rw [List.length_map, List.length_map] at this; omega
    walk_at "go"
    refine f_lcFiltN (SqL.of hc) (by omega) (fun n => decide (b ≤ n)) (fun _ => rfl) (fun _ => rfl) (fun i n H4 Q' hn s5 hq => ?_) fun D nD => ?_
    · walk_at "go"
      rw [show decide ((b : Int) ≤ (n : Int)) = decide (b ≤ n) by simp]
      exact hq
    have s5 := s4.trans (same_new (o := .lst (nv (zs.filter fun n => decide (b ≤ n)))) nD)
    have hc5 := same_new nD (o := .lst (nv (zs.filter fun n => decide (b ≤ n)))) _ _ hc
    have hD5 : upd H3 D (.lst (nv (zs.filter fun n => decide (b ≤ n)))) D = some (.lst (nv (zs.filter fun n => decide (b ≤ n)))) := upd_same
    generalize upd H3 D (.lst (nv (zs.filter fun n => decide (b ≤ n)))) = H5 at s5 hc5 hD5 ⊢
    walk_at "go"
    refine f_lcFiltN (SqL.of hc5) (by omega) (fun n => decide (0 < n) && decide (n < b)) (fun _ => rfl) (fun _ => rfl) (fun i n H4 Q' hn s6 hq => ?_) fun D2 nD2 => ?_
    · walk_at "go"
      rw [show decide ((0 : Int) < (n : Int)) = decide (0 < n) by simp]
      cases h0 : decide (0 < n) with
      | true =>
        walk_at "go"
        rw [show decide ((n : Int) < (b : Int)) = decide (n < b) by simp]
        rw [h0] at hq
        exact hq
      | false =>
        rw [h0] at hq
        walk_at "go"
        exact hq
    walk_at "go"
    refine ⟨sz_le (n := 2) (by decide), fun pt npt => ?_⟩
    have s7 := s5.trans (same_new (o := .lst (nv (zs.filter fun n => decide (0 < n) && decide (n < b)))) nD2)
    have hb0 := hD.fin
    refine q (zs.filter fun n => decide (b ≤ n)) (zs.filter fun n => decide (0 < n) && decide (n < b)) pt D D2 _ (s2.trans (s7.trans (same_new npt))) upd_same (same_new npt _ _ (same_new nD2 _ _ hD5)) (same_new npt _ _ upd_same) (free_of (s2.trans s5) nD2) (hasc.filter _) (hasc.filter _) (fun x => ?_) (fun x => ?_)
    · rw [List.mem_filter, hmem, hb0]; simp
    · rw [List.mem_filter, hmem, hb0]; simp
  refine f_while (coneW g d p dm dw top b r stop H2)
    _ ⟨[], [top], none, none, none, rfl, Dfs.start, (same_new ndm).trans (same_new ndw), by rw [upd_ne nwm.symm]; exact upd_same, upd_same, List.nodup_nil, (fun _ h => by cases h), (fun x h => by rw [List.mem_singleton.mp h]; exact htop), (by simp), rfl⟩ ?_
  rintro μ σ' H' ⟨met, stack, y1, y2, y3, rfl, hD, s3, hm, hw, hnd, hml, hsl, hsz, rfl⟩
  have hmet : met.length ≤ b + r.length := nodup_len _ met hnd hml
  walk_at "go"
  refine ⟨_, .inl ⟨_, SqL.of hw, rfl⟩, ?_⟩
  rcases List.eq_nil_or_concat stack with rfl | ⟨st, x, rfl⟩
  · refine iteF ?_
    walk_at "go"
    exact ⟨met, y1, y2, y3, rfl, hD, s3, hm, hnd, by omega⟩
  · rw [List.concat_eq_append] at hD hw hsl hsz ⊢
    rw [show (!(nv (st ++ [x])).isEmpty) = true by simp [nv]]
    walk_at "go"
    have hx : x < b + r.length := hsl x (by simp)
    refine g_pop hw (nv_app st [x]) ?_
    have hmE : H' dm = some (.dK (mk met)) := hm
    have s4 : Same H2 (upd H' dw (.lst (nv st))) := same_mut s3 ndw2
    have hm4 : upd H' dw (.lst (nv st)) dm = some (.dK (mk met)) := by rw [upd_ne nwm.symm]; exact hm
    have hw4 : upd H' dw (.lst (nv st)) dw = some (.lst (nv st)) := upd_same
    have hd4 : upd H' dw (.lst (nv st)) d = some (.dK kvs) := s4 _ _ (s2 _ _ hd)
    generalize upd H' dw (.lst (nv st)) = H4 at s4 hm4 hw4 hd4 ⊢
    have hlen : st.length + 1 ≤ 2 * met.length + 1 := by simpa using hsz
    walk_at "go"
    refine WDict.g_inI hm4 ?_
    rw [valV_mk]
    refine ⟨_, rfl, ?_⟩
    have hst' : ∀ y ∈ st, y < b + r.length := fun y hy => hsl y (List.mem_append_left _ hy)
    have skp : (x ∈ met ∨ stop x = true) → ∃ m', m' < 3 * (b + r.length - met.length) + (st ++ [x]).length ∧ coneW g d p dm dw top b r stop H2 m' [some (.ref g), some (.int (top : Int)), some (.ref d), some (.int (b : Int)), some (.ref p), some (.ref dm), some (.ref dw), some (.int (x : Int)), y2, y3, none] H4 :=
      fun h => ⟨3 * (b + r.length - met.length) + st.length, by simp, met, st, _, _, _, rfl, hD.skip h, s4, hm4, hw4, hnd, hml, hst', by omega, rfl⟩
    refine g_ite (fun e => ?_) (fun e => ?_)
    · walk_at "go"
      exact skp (.inl e)
    · walk_at "go"
      refine WDict.g_inI hd4 ?_
      rw [← hst]
      refine ⟨_, rfl, ?_⟩
      cases es : stop x with
      | true =>
        walk_at "go"
        exact skp (.inr es)
      | false =>
        walk_at "go"
        refine WDict.g_putI hm4 (by rw [mk_len]; exact sz_lt (by omega)) ?_
        rw [putK_mk e]
        have hDm := hD.meet es
        have s5 : Same H2 (upd H4 dm (.dK (mk (met ++ [x])))) := same_mut s4 ndm
        have hm5 : upd H4 dm (.dK (mk (met ++ [x]))) dm = some (.dK (mk (met ++ [x]))) := upd_same
        have hw5 : upd H4 dm (.dK (mk (met ++ [x]))) dw = some (.lst (nv st)) := by rw [upd_ne nwm]; exact hw4
        generalize upd H4 dm (.dK (mk (met ++ [x]))) = H5 at s5 hm5 hw5 ⊢
        have hnd' : (met ++ [x]).Nodup := by
          rw [List.nodup_append]
          exact ⟨hnd, by simp, fun a ha c hc => by rw [List.mem_singleton.mp hc]; exact fun h => e (h ▸ ha)⟩
        have hml' : ∀ y ∈ met ++ [x], y < b + r.length := fun y hy => by
          rcases List.mem_append.mp hy with hy | hy
          · exact hml y hy
          · rw [List.mem_singleton.mp hy]; exact hx
        have hmet' := nodup_len _ _ hnd' hml'
        rw [List.length_append, List.length_singleton] at hmet'
        walk_at "go"
        refine g_ite (fun e2 => ?_) (fun e2 => ?_)
        · have hj : x - b < r.length := by omega
          have hr : r[x - b]? = some r[x - b] := List.getElem?_eq_getElem hj
          generalize r[x - b] = t at hr
          have hat := s5 _ _ (s2 _ _ ((ha2 t (List.mem_of_getElem? hr))))
          have hp5 := s5 _ _ hp
          rw [ha1] at hp5
          have hk : kidF b (r.map (·.2)) x = [t.2.1 / 2, t.2.2 / 2] := kidF_hi (t := t.2) (by omega) (by rw [List.getElem?_map, hr]; rfl)
          have hkl := kidF_lt hok x
          rw [hk] at hkl hDm
          have hk1 := hkl _ List.mem_cons_self
          have hk2 := hkl _ (List.mem_cons_of_mem _ List.mem_cons_self)
          walk_at "go"
          refine g_ixL (SqL.of hp5) (at_z (j := x - b) (by omega) (by rw [List.getElem?_map, hr]; rfl)) ?_
          walk_at "go"
          rw [half]
          refine g_app hw5 (by rw [nv_len]; exact sz_lt (by omega)) ?_
          rw [show nv st ++ [V.int ((t.2.1 / 2 : Nat) : Int)] = nv (st ++ [t.2.1 / 2]) from (nv_app st [t.2.1 / 2]).symm]
          have hw6 : upd H5 dw (.lst (nv (st ++ [t.2.1 / 2]))) dw = some (.lst (nv (st ++ [t.2.1 / 2]))) := upd_same
          walk_at "go"
          rw [half]
          refine g_app hw6 (by rw [nv_len, List.length_append]; exact sz_lt (by simp; omega)) ?_
          rw [upd_upd, show nv (st ++ [t.2.1 / 2]) ++ [V.int ((t.2.2 / 2 : Nat) : Int)] = nv (st ++ [t.2.1 / 2, t.2.2 / 2]) from by rw [← nv_app_one, List.append_assoc]; rfl]
          walk_at "go"
          refine ⟨3 * (b + r.length - (met ++ [x]).length) + (st ++ [t.2.1 / 2, t.2.2 / 2]).length, by simp; omega, met ++ [x], _, _, _, _, rfl, hDm, same_mut s5 ndw2, by rw [upd_ne nwm.symm]; exact hm5, upd_same, hnd', hml', fun y hy => ?_, by simp; omega, rfl⟩
          rcases List.mem_append.mp hy with hy | hy
          · exact hst' y hy
          · simp at hy
            omega
        · have hk : kidF b (r.map (·.2)) x = [] := kidF_lo (by omega)
          rw [hk, List.append_nil] at hDm
          walk_at "go"
          exact ⟨3 * (b + r.length - (met ++ [x]).length) + st.length, by simp; omega, met ++ [x], st, _, _, _, rfl, hDm, s5, hm5, hw5, hnd', hml', hst', by simp; omega, rfl⟩
theorem ok_leaves_of (T : Txt K mg dA) (c_cone_of : C8.Cal P w K mg base 4 "cone_of" (spCone (dA 200)) []) {f : Addr} {fd : FuncData} (F : Fun K "leaves_of" "leaves_of" s_leaves_of f fd) : FnOk P w K mg base CX0 5 f fd ["graph", "literal"] (spLeaves (dA 200)) := by
  refine F.ok sc_leaves_of (fun vs H Q E h => ?_) (fun cdv A outer s H vs Q E hr h => ?_)
  · obtain ⟨g, b, r, L, rfl, _⟩ := h
    rfl
  obtain ⟨g, b, r, L, rfl, hG, hR, htop, q⟩ := h
  refine ⟨_, (pss_one (ps_ret (pe_ix (kix_tup K) (C8.pe_c c_cone_of hr (by decide) (by rfl) (pa_cons (pv 0) (pa_cons (pe_op op_shr (pv 1) pe_int) (pa_cons pe_dnewK pa_nil)))) pe_int (fun _ _ => rfl)))), ?_⟩
  rw [show (L2.start ["graph", "literal"] [.ref g, .int (L : Int)] : L2.St) = [some (.ref g), some (.int (L : Int))] from rfl]
  try simp only [WL.cxK]
  walk_at "go"
  rw [half]
  intro d nd
  have s1 := same_new (o := .dK []) nd
  walk_at "go"
  refine ⟨g, b, r, L / 2, d, [], fun _ => false, rfl, hG.same s1, hR, upd_same, fun n => rfl, htop, fun inner leaves p l1 l2 H' s2 hp h1 h2 n2 a1 a2 m1 m2 => ?_⟩
  walk_at "go"
  exact q leaves l2 H' (s1.trans s2) h2 (free_of s1 n2) a2 m2
end K22
set_option Elab.async false
set_option linter.all false
set_option maxRecDepth 100000
set_option maxHeartbeats 4000000
namespace K22
open PySem PySem.Spec PyProof.Rows L2 WL
local macro_rules | `(tactic| walk_at "lk") => `(tactic| first
  | apply upd_same
  | assumption
  | (rw [upd_ne (by assumption)]; first | exact upd_same | assumption | (rw [upd_ne (by assumption)]; first | exact upd_same | assumption | (rw [upd_ne (by assumption)]; first | exact upd_same | assumption))))
local macro_rules | `(tactic| walk_at "go1") => `(tactic| first
  | (with_reducible refine g_seq ?_)
  | (with_reducible refine g_asg ?_)
  | (with_reducible refine g_name ?_)
  | (with_reducible refine g_sub ?_)
  | ((with_reducible refine' g_var ?gv ?_); (case gv => apply Eq.refl))
  | (with_reducible refine g_c ?_)
  | (with_reducible refine g_op ?_)
  | (with_reducible refine g_un ?_)
  | (with_reducible refine g_I0 ?_)
  | ((with_reducible refine g_I ?gc ?_); (case gc => first | assumption | decide | (show (0 : Int) < _; omega) | refine Or.inr ⟨by omega, by omega⟩ | refine Or.inl ⟨by omega, by omega⟩ | refine ⟨by omega, by omega⟩))
  | (with_reducible refine iteT ?_)
  | (with_reducible refine iteF ?_)
  | (with_reducible refine iteNT ?_)
  | (with_reducible refine iteNF ?_)
  | (with_reducible refine g_andV ?_)
  | (with_reducible refine g_orV ?_)
  | ((with_reducible refine' g_lenS (by assumption) ?_))
  | ((with_reducible refine' g_lenS (SqL.of (by walk_at "lk")) ?_))
  | (with_reducible refine g_U ?_)
  | ((with_reducible refine' g_eq ?gs ?_); (case gs => rfl))
  | ((with_reducible refine g_ne ?gs ?_); (case gs => rfl))
  | (with_reducible refine g_drop ?_)
  | (with_reducible refine g_ret ?_)
  | (with_reducible refine g_next ?_)
  | (with_reducible refine g_ifS ?_)
  | (with_reducible refine g_ifE ?_)
  | (with_reducible refine g_test ?_)
  | (with_reducible refine g_tb ?_)
  | (with_reducible refine g_bl ?_)
  | (with_reducible refine g_not ?_)
  | (with_reducible refine g_and ?_)
  | (with_reducible refine g_or ?_)
  | (with_reducible refine g_nil ?_)
  | (with_reducible refine g_cons ?_)
  | (with_reducible refine g_cb ?_)
  | (with_reducible refine g_call ?_)
  | (with_reducible refine g_int ?_)
  | (with_reducible refine g_two ?_)
  | ((with_reducible refine g_lenStr ?gz ?_); (case gz => first | assumption | exact sz_le (by omega)))
  | (with_reducible refine g_m1 ?_)
  | (with_reducible refine g_isS ?_)
  | (with_reducible refine g_nn ?_)
  | (with_reducible refine g_yes ?_)
  | (with_reducible refine g_for ?_)
  | (with_reducible refine g_ckw ?_)
  | (with_reducible refine g_chain ?_)
  | (with_reducible refine g_gcons ?_)
  | (with_reducible refine g_gnil ?_)
  | (with_reducible refine g_notV ?_)
  | (with_reducible refine g_iZip ?_)
  | (with_reducible refine g_lc ?_)
  | (with_reducible refine g_lc2 ?_)
  | (with_reducible refine g_iList ?_)
  | (with_reducible refine g_iRng1 ?_)
  | (with_reducible refine g_iRng2 ?_)
  | (with_reducible refine g_sl ?_)
  | (with_reducible refine g_noPart ?_)
  | (with_reducible refine g_part ?_)
  | (with_reducible refine g_ex1 ?_)
  | (with_reducible refine g_bm ?_)
  | ((with_reducible refine' g_tyL (by walk_at "lk") ?_))
  | ((with_reducible refine' g_aug ?gv ?_); (case gv => exact rfl))
  | (with_reducible refine g_ipI ?_)
  | (with_reducible refine g_turn ?_)
  | (with_reducible refine g_brk ?_)
  | (with_reducible refine g_cont ?_)
  | (with_reducible refine g_sign ?_)
  | (with_reducible refine g_lst ?_)
  | (with_reducible refine g_tup ?_)
  | ((with_reducible refine' g_ixL (by assumption) ?ga ?_); (case ga => assumption))
  | ((with_reducible refine' g_ixL (SqL.of (by walk_at "lk")) ?ga ?_); (case ga => first | exact rfl | assumption))
  | ((with_reducible refine' g_ixT (SqT.of (by walk_at "lk")) ?ga ?_); (case ga => first | exact rfl | assumption))
  | ((with_reducible refine' g_lenT (SqT.of (by walk_at "lk")) ?_))
  | ((with_reducible refine' g_isiS (b := true) ?ga ?_); (case ga => decide +kernel))
  | ((with_reducible refine' g_isiS (b := false) ?ga ?_); (case ga => decide +kernel))
  | ((with_reducible refine' g_isiI (b := true) ?ga ?_); (case ga => decide +kernel))
  | ((with_reducible refine' g_isiI (b := false) ?ga ?_); (case ga => decide +kernel))
  | ((with_reducible refine' g_setL2 ?ga ?gb ?_); (case ga => exact rfl); (case gb => exact rfl))
  | ((with_reducible refine' g_setL (by walk_at "lk") ?ga ?gb ?_); (case ga => exact rfl); (case gb => exact rfl)))
local macro_rules | `(tactic| walk_at "go") => `(tactic| ((repeat walk_at "go1"); try dsimp only [List.set, List.cons_append, List.nil_append]))
local macro_rules | `(tactic| walk_at "go1") => `(tactic| first
  | (with_reducible refine WOwn.g_fl ?_)
  | (with_reducible refine WOwn.g_sfl ?_)
  | (with_reducible refine WOwn.g_make ?_)
  | (with_reducible refine WOwn.g_meth ?_)
  | (with_reducible refine WOwn.g_sm ?_)
  | (with_reducible refine WOwn.g_cv ?_))
local macro_rules | `(tactic| walk_at "go1") => `(tactic| first
  | (with_reducible refine WDict.g_dget ?_)
  | (with_reducible refine WDict.g_din ?_)
  | (with_reducible refine WDict.g_dnotin ?_)
  | (with_reducible refine WDict.g_dput ?_)
  | (with_reducible refine WDict.g_dnew ?_)
  | (with_reducible refine WDict.g_dget2 ?_)
  | (with_reducible refine WDict.g_dsetd ?_)
  | (with_reducible refine WDict.g_disp ?_)
  | (with_reducible refine WDict.g_pair ?_)
  | (with_reducible refine WDict.g_pair0 ?_)
  | (with_reducible refine WDict.g_tru ?_))
local macro_rules | `(tactic| walk_at "go1") => `(tactic| first
  | (with_reducible refine g_iEnum ?_)
  | (with_reducible refine g_iTup ?_)
  | (with_reducible refine g_bm0 ?_)
  | ((with_reducible refine' g_gTup (SqT.of (by walk_at "lk")) ?gn ?_); (case gn => exact rfl)))
theorem node_ch {ch : Nat → Option Bool} {b x : Nat} {v : Bool} {ps : List (Nat × Nat)} (ok : PrOk b ps) (hx : x < b + ps.length) (h : ch x = some v) : node ch b ps x = v := by
  by_cases hb : x < b
  · rw [node_lo hb _ ps rfl, h]; rfl
  · have hj : ps[x - b]? = some (ps[x - b]'(by omega)) := List.getElem?_eq_getElem (by omega)
    have e := node_hi (ch := ch) _ ps rfl ok _ _ hj
    rw [show b + (x - b) = x by omega, h] at e
    exact e
/-- the tables in a dict are those of their nodes -/
def TbD (ls : List Nat) (b : Nat) (ps : List (Nat × Nat)) (kvs : List (Key × V)) : Prop := ∀ (x : Nat) v, valV kvs (.inl (x : Int)) = some v → ∃ t : Nat, v = .int (t : Int) ∧ TabOf ls.length (chosen ls) b ps x t
theorem TbD.put {ls : List Nat} {b x t : Nat} {ps : List (Nat × Nat)} {kvs : List (Key × V)} (h : TbD ls b ps kvs) (ht : TabOf ls.length (chosen ls) b ps x t) : TbD ls b ps (putK kvs (.inl (x : Int)) (.int (t : Int))) := fun y v hy => by
  by_cases e : y = x
  · subst e
    rw [WDict.valV_put1] at hy
    cases hy
    exact ⟨t, rfl, ht⟩
  · rw [WDict.valV_put2 (WDict.inl_ne e)] at hy
    exact h y v hy
theorem put_in {kvs : List (Key × V)} {x n : Nat} {v : V} : (valV (putK kvs (.inl (x : Int)) v) (.inl (n : Int))).isSome = (decide (n = x) || (valV kvs (.inl (n : Int))).isSome) := by
  by_cases e : n = x
  · subst e
    rw [WDict.valV_put1]; simp
  · rw [WDict.valV_put2 (WDict.inl_ne e)]; simp [e]
theorem same_kp {a : Addr} {H H1 H2 : Hp} (s : Same H H1) (k : Kp a H1 H2) (n : H a = none) : Same H H2 := fun b o h => k _ _ (s _ _ h) (ne_of_none h n)
theorem asc_len {n : Nat} {l : List Nat} (h : l.Pairwise (· < ·)) (hb : ∀ x ∈ l, x < n) : l.length ≤ n := nodup_len n l (h.imp fun hlt => by omega) hb
theorem asc_take {l : List Nat} {i x y : Nat} (h : l.Pairwise (· < ·)) (hx : l[i]? = some x) (hy : y ∈ l) (hlt : y < x) : y ∈ l.take i := by
  obtain ⟨j, hj, e⟩ := List.getElem_of_mem hy
  obtain ⟨hi, e2⟩ := List.getElem?_eq_some_iff.mp hx
  have hji : j < i := by
    by_cases c : j < i
    · exact c
    · rw [List.pairwise_iff_getElem] at h
      by_cases c2 : i = j
      · subst c2; omega
      · have := h i j hi hj (by omega); omega
  rw [List.mem_take_iff_getElem]
  exact ⟨j, by omega, e⟩
/-- a literal's table is there -/
theorem lit_there {ls : List Nat} {b y : Nat} {ps : List (Nat × Nat)} {kvs : List (Key × V)} (h : TbD ls b ps kvs) (hy : (valV kvs (.inl (y : Int))).isSome = true) : ∃ t : Nat, valV kvs (.inl (y : Int)) = some (.int (t : Int)) ∧ TabOf ls.length (chosen ls) b ps y t := by
  obtain ⟨v, hv⟩ := Option.isSome_iff_exists.mp hy
  obtain ⟨t, rfl, ht⟩ := h y v hv
  exact ⟨t, hv, ht⟩
theorem lit_bit {ls : List Nat} {b L t : Nat} {ps : List (Nat × Nat)} (h : TabOf ls.length (chosen ls) b ps (L / 2) t) {u : Nat} (hu : ∀ c, c < 2 ^ ls.length → u.testBit c = (t.testBit c != decide (L % 2 = 1))) : ∀ c, c < 2 ^ ls.length → u.testBit c = lit (chosen ls c) b ps L := fun c hc => by
  rw [hu c hc, h.2 c hc]
  rfl
def spTable (C W N : Addr) : Sp := fun vs H Q E => ∃ (g : Addr) (b : Nat) (r : Pairs) (L : Nat) (ll : Addr) (ls : List Nat), vs = [.ref g, .int (L : Int), .ref ll] ∧ GOk C H g b r ∧ ROk b r ∧ 0 < b ∧ H ll = some (.lst (nv ls)) ∧ ls.Nodup ∧ (∀ x ∈ ls, x < b + r.length) ∧ L / 2 < b + r.length ∧ ls.length ≤ 1000 ∧
  (16 < ls.length → ∀ d H', Same H H' → H' d = some (.xd [("limit", .int 16), ("count", .int (ls.length : Int))]) → E (.ref W) (some d) H') ∧
  (ls.length ≤ 16 → ∀ leaves : List Nat, leaves.Pairwise (· < ·) → (∀ x, x ∈ leaves ↔ Rch (kidF b (r.map (·.2))) (fun n => decide (n ∈ ls)) (L / 2) x ∧ 0 < x ∧ x < b) →
    (∀ m rest, leaves = m :: rest → ∀ d H', Same H H' → H' d = some (.xd [("node", .int (m : Int))]) → E (.ref N) (some d) H') ∧
    (leaves = [] → ∀ (t : Nat) H', Same H H' → t < 2 ^ 2 ^ ls.length → (∀ c, c < 2 ^ ls.length → t.testBit c = lit (chosen ls c) b (r.map (·.2)) L) → Q (.int (t : Int)) H'))
variable {P : Program} {w : World} {K : PySem.W.Frag} {mg : Str → Option Value} {base : Heap} {dA : Nat → Addr}
theorem ok_table_of (T : Txt K mg dA) (c_cone_of : C8.Cal P w K mg base 4 "cone_of" (spCone (dA 200)) []) (c_first_and : C8.Cal P w K mg base 3 "first_and" (spFirst (dA 200)) []) (c_full_table : C8.Cal P w K mg base 1 "full_table" spFull []) (c_literal_table : C8.Cal P w K mg base 1 "literal_table" spLit []) (c_variable : C8.Cal P w K mg base 1 "variable" spVar []) (x_TooWide : WExc.Exc P w K mg base "TooWide" (dA 100) 2 (WExc.spIni (dA 100) 2 ok_TooWide fs_TooWide)) (x_NotACut : WExc.Exc P w K mg base "NotACut" (dA 101) 2 (WExc.spIni (dA 101) 1 ok_NotACut fs_NotACut)) (c_Graph_ands : C8.Met P w K mg base 1 (dA 200) "ands" (spCopy (dA 200) Gr.ands) []) {f : Addr} {fd : FuncData} (F : Fun K "table_of" "table_of" s_table_of f fd) : FnOk P w K mg base (L2.CX P w) 5 f fd ["graph", "literal", "leaves"] (spTable (dA 200) (dA 100) (dA 101)) := by
  refine F.okX sc_table_of (fun vs H Q E h => ?_) (fun cdv A outer s H vs Q E hr h => ?_)
  · obtain ⟨g, b, r, L, ll, ls, rfl, _⟩ := h
    rfl
  obtain ⟨g, b, r, L, ll, ls, rfl, hG, hR, hb0, hll, hnd, hlb, hL, hln, q1, q2⟩ := h
  refine ⟨_, (pss_cons (ps_set (i := 3) sc_table_of.nd rfl (.inl rfl) (pe_callB (kcall_len_seq K) (by rfl) T.b_len (by decide +kernel) (pa_cons (pv 2) pa_nil)))
      (pss_cons (ps_if (pt_cmpR op_gt (pv 3) (C8.pe_gc (by rfl) T.g_MOST_LEAVES) (nomark _)) (pss_one (WExc.ps_raiseT rfl (takes_of rfl rfl rfl rfl) (WExc.pmk_exc x_TooWide hr (by decide) (by rfl) (by exact (pa_cons (pv 3) (pa_cons (C8.pe_gc (by rfl) T.g_MOST_LEAVES) pa_nil)))))) pss_nil)
      (pss_cons (ps_set (i := 4) sc_table_of.nd rfl (.inl rfl) pe_dnewK)
      (Evl.pss_cut (ps_for (passes_of rfl) rfl (kpi_enum K (by rfl) T.b_enumerate (pa_cons (pv 2) pa_nil)) (kpg_tup K (n := 2) (by rfl) (pgs_cons (pg_name (i := 5) sc_table_of.nd rfl (.inl rfl)) (pgs_cons (pg_name (i := 6) sc_table_of.nd rfl (.inl rfl)) pgs_nil))) (pss_one (ps_dput (hu_of hr) (pv 4) (pv 6) (C8.pe_c c_variable hr (by decide) (by rfl) (pa_cons (pv 5) (pa_cons (pv 3) pa_nil))) (by rfl))))
      (pss_cons (ps_asg (C8.pe_c c_cone_of hr (by decide) (by rfl) (pa_cons (pv 0) (pa_cons (pe_op op_shr (pv 1) pe_int) (pa_cons (pv 4) pa_nil)))) (kpg_tup K (n := 2) (by rfl) (pgs_cons (pg_name (i := 7) sc_table_of.nd rfl (.inl rfl)) (pgs_cons (pg_name (i := 8) sc_table_of.nd rfl (.inl rfl)) pgs_nil))))
      (pss_cons (ps_if (kpt_truth K (pv 8) (by intro _; rfl)) (pss_one (WExc.ps_raiseT rfl (takes_of rfl rfl rfl rfl) (WExc.pmk_exc x_NotACut hr (by decide) (by rfl) (by exact (pa_cons (pe_ix (kix_list K) (pv 8) pe_int (fun _ _ => rfl)) pa_nil))))) pss_nil)
      (Evl.pss_cut (ps_expr (pe_dsetd (pv 4) pe_int pe_int ⟨by rfl, by rfl, by rfl, by rfl⟩))
      (pss_cons (ps_set (i := 9) sc_table_of.nd rfl (.inl rfl) (C8.pe_c c_first_and hr (by decide) (by rfl) (pa_cons (pv 0) pa_nil)))
      (pss_cons (ps_set (i := 10) sc_table_of.nd rfl (.inl rfl) (C8.pe_mt0 c_Graph_ands hr (by decide) (pv 0)))
      (pss_cons (ps_set (i := 11) sc_table_of.nd rfl (.inl rfl) (C8.pe_c c_full_table hr (by decide) (by rfl) (pa_cons (pv 3) pa_nil)))
      (Evl.pss_cut (ps_for (passes_of rfl) rfl (kpi_list K (pv 7)) (pg_name (i := 12) sc_table_of.nd rfl (.inl rfl)) (pss_cons (ps_asg (pe_ix (kix_list K) (pv 10) (pe_op op_sub (pv 12) (pv 9)) (fun _ _ => rfl)) (kpg_tup K (n := 2) (by rfl) (pgs_cons (pg_name (i := 13) sc_table_of.nd rfl (.inl rfl)) (pgs_cons (pg_name (i := 14) sc_table_of.nd rfl (.inl rfl)) pgs_nil))))
      (pss_one (ps_dput (hu_of hr) (pv 4) (pv 12) (pe_op op_and (C8.pe_c c_literal_table hr (by decide) (by rfl) (pa_cons (pv 4) (pa_cons (pv 13) (pa_cons (pv 11) pa_nil)))) (C8.pe_c c_literal_table hr (by decide) (by rfl) (pa_cons (pv 4) (pa_cons (pv 14) (pa_cons (pv 11) pa_nil))))) (by rfl)))))
      (pss_one (ps_ret (C8.pe_c c_literal_table hr (by decide) (by rfl) (pa_cons (pv 4) (pa_cons (pv 1) (pa_cons (pv 11) pa_nil))))))))))))))))), ?_⟩
  rw [show (L2.start ["graph", "literal", "leaves", "count", "tables", "i", "leaf", "inner", "missed", "first", "pairs", "full", "node", "x", "y"] [.ref g, .int (L : Int), .ref ll] : L2.St) = [some (.ref g), some (.int (L : Int)), some (.ref ll), none, none, none, none, none, none, none, none, none, none, none, none] from rfl]
  try simp only [WL.cxK]
  walk_at "go"
  rw [nv_len]
  refine g_ite (fun e => ?_) (fun e => ?_)
  · walk_at "go"
    refine WExc.g_raise ?_
    refine WExc.g_mkO ?_
    walk_at "go"
    refine WExc.g_ini rfl (by decide) ⟨(ls.length : Int), 16, rfl, log_small (by omega) (by omega), by decide +kernel⟩ fun d H2 nd s2 hd2 => ?_
    exact q1 (by omega) d H2 s2 hd2
  have hls : ls.length ≤ 16 := by omega
  have q2 := q2 hls
  walk_at "go"
  intro dt ndt
  have s1 := same_new (o := .dK []) ndt
  walk_at "go"
  refine ⟨fun σ' H' => ∃ (y1 y2 : Option V) (kvs : List (Key × V)), σ' = [some (.ref g), some (.int (L : Int)), some (.ref ll), some (.int (ls.length : Int)), some (.ref dt), y1, y2, none, none, none, none, none, none, none, none] ∧ Same H H' ∧ H' dt = some (.dK kvs) ∧ kvs.length ≤ 16 ∧ TbD ls b (r.map (·.2)) kvs ∧ ∀ n : Nat, decide (n ∈ ls) = (valV kvs (.inl (n : Int))).isSome, ?_, fun σ' H' hW => ?_⟩
  · walk_at "go"
    refine f_enum (SqL.of (s1 _ _ hll)) (fun i σ' H' => ∃ (y1 y2 : Option V) (kvs : List (Key × V)), σ' = [some (.ref g), some (.int (L : Int)), some (.ref ll), some (.int (ls.length : Int)), some (.ref dt), y1, y2, none, none, none, none, none, none, none, none] ∧ Same H H' ∧ H' dt = some (.dK kvs) ∧ kvs.length ≤ i ∧ TbD ls b (r.map (·.2)) kvs ∧ ∀ n : Nat, decide (n ∈ ls.take i) = (valV kvs (.inl (n : Int))).isSome)
      ⟨none, none, [], rfl, s1, upd_same, Nat.le_refl _, (fun x v h => by cases h), fun n => by simp [valV]⟩ (fun i σ' H' _ hP => ?_) (fun i x pt σ' H' hx hP npt => ?_) (fun σ' H' hP => ?_)
    · obtain ⟨y1, y2, kvs, rfl, s2, _⟩ := hP
      exact SqL.of (s2 _ _ hll)
    · obtain ⟨y1, y2, kvs, rfl, s2, hdt, hk, hT, hin⟩ := hP
      obtain ⟨n, hn, rfl⟩ := at_nv hx
      have hi := lt_at hn
      have s3 := s2.trans (same_new (o := .tup [V.int (i : Nat), V.int (n : Int)]) npt)
      have hdt3 := same_new npt (o := .tup [V.int (i : Nat), V.int (n : Int)]) _ _ hdt
      have hpt : upd H' pt (.tup [V.int (i : Nat), V.int (n : Int)]) pt = some (.tup [V.int (i : Nat), V.int (n : Int)]) := upd_same
      generalize upd H' pt (.tup [V.int (i : Nat), V.int (n : Int)]) = H3 at s3 hdt3 hpt ⊢
      walk_at "go"
      refine ⟨i, ls.length, rfl, hi, hls, fun t ht hb => ?_⟩
      walk_at "go"
      refine WDict.g_putI hdt3 (sz_lt (by omega)) ?_
      walk_at "go"
      refine ⟨_, _, _, rfl, same_mut s3 ndt, upd_same, by have := WDict.putK_le kvs (.inl (n : Int)) (.int (t : Int)); omega, hT.put ⟨ht, fun c hc => ?_⟩, fun m => ?_⟩
      · rw [hb c hc, node_ch hR.2.2 (by rw [List.length_map]; exact hlb n (List.mem_of_getElem? hn)) (chosen_some hnd hn)]
      · rw [put_in, ← hin m, List.take_succ, hn]
        by_cases e1 : m = n <;> simp [e1]
    · obtain ⟨y1, y2, kvs, rfl, s2, hdt, hk, hT, hin⟩ := hP
      rw [nv_len] at hk hin
      rw [List.take_length] at hin
      exact ⟨y1, y2, kvs, rfl, s2, hdt, by omega, hT, hin⟩
  obtain ⟨y1, y2, kvs, rfl, s2, hdt, hk, hT, hin⟩ := hW
  have hG2 := hG.same s2
  walk_at "go"
  rw [half]
  refine ⟨g, b, r, L / 2, dt, kvs, fun n => decide (n ∈ ls), rfl, hG2, hR, hdt, hin, hL, fun inner leaves pc l1 l2 H3 s3 hpc hl1 hl2 nl2 a1 a2 m1 m2 => ?_⟩
  obtain ⟨q3, q4⟩ := q2 leaves a2 m2
  walk_at "go"
  refine ⟨_, .inl ⟨_, SqL.of hl2, rfl⟩, ?_⟩
  cases leaves with
  | cons m rest =>
    refine iteT ?_
    walk_at "go"
    refine WExc.g_raise ?_
    refine WExc.g_mkO ?_
    walk_at "go"
    refine g_ixL (SqL.of hl2) (v := .int (m : Int)) (at_z (j := 0) rfl rfl) ?_
    walk_at "go"
    have hm := (m2 m).mp List.mem_cons_self
    have := hR.1
    refine WExc.g_ini rfl (by decide) ⟨(m : Int), rfl, log_small (by omega) (by omega)⟩ fun d H4 nd s4 hd4 => ?_
    exact q3 m rest rfl d H4 (s2.trans (s3.trans s4)) hd4
  | nil =>
    refine iteF ?_
    have q4 := q4 rfl
    have s3' := s2.trans s3
    have hdt3 := s3 _ _ hdt
    walk_at "go"
    refine ⟨fun σ' H' => ∃ (kvs : List (Key × V)), σ' = [some (.ref g), some (.int (L : Int)), some (.ref ll), some (.int (ls.length : Int)), some (.ref dt), y1, y2, some (.ref l1), some (.ref l2), none, none, none, none, none, none] ∧ Same H H' ∧ H' dt = some (.dK kvs) ∧ kvs.length ≤ 17 ∧ TbD ls b (r.map (·.2)) kvs ∧ (∀ n : Nat, n ∈ ls ∨ n = 0 → (valV kvs (.inl (n : Int))).isSome = true) ∧ H' l1 = some (.lst (nv inner)), ?_, fun σ' H' hW => ?_⟩
    · walk_at "go"
      refine ⟨dt, rfl, .inl ⟨kvs, .inl hdt3⟩, ?_⟩
      walk_at "go"
      refine ⟨kvs, .inl 0, hdt3, rfl, sz_lt (by omega), fun v hv => ?_, fun hv => ?_⟩
      · walk_at "go"
        exact ⟨kvs, rfl, s3', hdt3, by omega, hT, fun n hn => by
          rcases hn with hn | rfl
          · rw [← hin]; simpa using hn
          · rw [show ((0 : Nat) : Int) = 0 from rfl, hv]; rfl, hl1⟩
      · walk_at "go"
        have h0 : 0 ∉ ls := fun h => by
          have := hin 0
          rw [show ((0 : Nat) : Int) = 0 from rfl, hv] at this
          simp [h] at this
        have nl : l1 ≠ dt := fun e => by rw [e, hdt3] at hl1; cases hl1
        have hp0 := hT.put (x := 0) (t := 0) ⟨Nat.pow_pos (by decide), fun c hc => by rw [node_lo hb0 _ _ rfl, chosen_none h0]; simp⟩
        exact ⟨_, rfl, same_mut s3' ndt, upd_same, by have := WDict.putK_le kvs (.inl 0) (.int 0); omega, hp0, fun n hn => by
          rw [show (0 : Int) = ((0 : Nat) : Int) from rfl, put_in]
          rcases hn with hn | rfl
          · rw [← hin]; simp [hn]
          · simp, by rw [upd_ne nl]; exact hl1⟩
    obtain ⟨kvs, rfl, s4, hdt4, hk4, hT4, hin4, hl4⟩ := hW
    have hG4 := hG.same s4
    have hG5 := hG4
    obtain ⟨G, rows, hA, hi1, hi2, hi3, hr1, hsum, ha1, ha2⟩ := hG5
    walk_at "go"
    refine ⟨g, G, rows, rfl, hA, hi1, hi2, hi3, hr1, fun H5 s5 => ?_⟩
    rw [hsum]
    have hA5 := hA.same s5
    have hA6 := hA5
    obtain ⟨dx, li, lr, la, lo, hg, _⟩ := hA6
    walk_at "go"
    refine WOwn.g_methR hg rfl ?_
    walk_at "go"
    refine ⟨g, G, rfl, hA5, by rw [ha1, List.length_map]; have := hR.2.1; omega, fun pa npa => ?_⟩
    rw [ha1]
    have s6 := s5.trans (same_new (o := .lst (r.map fun t => V.ref t.1)) npa)
    have hpa : upd H5 pa (.lst (r.map fun t => V.ref t.1)) pa = some (.lst (r.map fun t => V.ref t.1)) := upd_same
    generalize upd H5 pa (.lst (r.map fun t => V.ref t.1)) = H6 at s6 hpa ⊢
    walk_at "go"
    refine ⟨ls.length, rfl, hls, ?_⟩
    walk_at "go"
    have hdt6 := s6 _ _ hdt4
    have hl6 := s6 _ _ hl4
    have ha6 : PrAt H6 r := ha2.same s6
    have nl : l1 ≠ dt := fun e => by rw [e, hdt4] at hl4; cases hl4
    have np : pa ≠ dt := fun e => by rw [e, hdt6] at hpa; cases hpa
    have hil : ∀ x ∈ inner, x < b + r.length := fun x hx => by
      have := (m1 x).mp hx
      have := this.1.le (kidF_lt hR.2.2)
      omega
    have hinl := asc_len a1 hil
    have hb3 := hR.1
    have hb4 := hR.2.1
    refine ⟨fun σ' H' => ∃ (y3 y4 y5 : Option V) (kvs : List (Key × V)), σ' = [some (.ref g), some (.int (L : Int)), some (.ref ll), some (.int (ls.length : Int)), some (.ref dt), y1, y2, some (.ref l1), some (.ref l2), some (.int (b : Int)), some (.ref pa), some (.int (2 ^ 2 ^ ls.length - 1)), y3, y4, y5] ∧ Kp dt H6 H' ∧ H' dt = some (.dK kvs) ∧ TbD ls b (r.map (·.2)) kvs ∧ (∀ n : Nat, n ∈ ls ∨ n = 0 ∨ n ∈ inner → (valV kvs (.inl (n : Int))).isSome = true), ?_, fun σ' H' hW => ?_⟩
    · walk_at "go"
      refine f_list (SqL.of hl6) (fun i σ' H' => ∃ (y3 y4 y5 : Option V) (kvs : List (Key × V)), σ' = [some (.ref g), some (.int (L : Int)), some (.ref ll), some (.int (ls.length : Int)), some (.ref dt), y1, y2, some (.ref l1), some (.ref l2), some (.int (b : Int)), some (.ref pa), some (.int (2 ^ 2 ^ ls.length - 1)), y3, y4, y5] ∧ Kp dt H6 H' ∧ H' dt = some (.dK kvs) ∧ kvs.length ≤ 17 + i ∧ TbD ls b (r.map (·.2)) kvs ∧ (∀ n : Nat, n ∈ ls ∨ n = 0 ∨ n ∈ inner.take i → (valV kvs (.inl (n : Int))).isSome = true))
        ⟨none, none, none, kvs, rfl, Kp.refl _, hdt6, by omega, hT4, fun n hn => hin4 n (by simpa using hn)⟩ (fun i σ' H' _ hP => ?_) (fun i x σ' H' hx hP => ?_) (fun σ' H' hP => ?_)
      · obtain ⟨y3, y4, y5, kvs, rfl, k7, _⟩ := hP
        exact SqL.of (k7 _ _ hl6 nl)
      · obtain ⟨y3, y4, y5, kvs, rfl, k7, hdt7, hk7, hT7, hin7⟩ := hP
        obtain ⟨n, hn, rfl⟩ := at_nv hx
        have hi := lt_at hn
        have hmem := List.mem_of_getElem? hn
        obtain ⟨hrch, hbn⟩ := (m1 n).mp hmem
        have hnl := hil n hmem
        have hu : r[n - b]? = some (r[n - b]'(by omega)) := List.getElem?_eq_getElem (by omega)
        generalize r[n - b]'(by omega) = u at hu
        have hpsu : (r.map (·.2))[n - b]? = some u.2 := by rw [List.getElem?_map, hu]; rfl
        have hkid := kidF_hi (t := u.2) hbn hpsu
        have hkl := kidF_lt hR.2.2 n
        have there : ∀ y ∈ kidF b (r.map (·.2)) n, (valV kvs (.inl (y : Int))).isSome = true := fun y hy => by
          by_cases hyl : y ∈ ls
          · exact hin7 y (.inl hyl)
          · have hry : Rch (kidF b (r.map (·.2))) (fun n => decide (n ∈ ls)) (L / 2) y := hrch.step hy (by simpa using hyl)
            have hlt := hkl y hy
            by_cases hyb : b ≤ y
            · exact hin7 y (.inr (.inr (asc_take a1 hn ((m1 y).mpr ⟨hry, hyb⟩) hlt)))
            · by_cases hy0 : y = 0
              · exact hin7 y (.inr (.inl hy0))
              · have := (m2 y).mpr ⟨hry, by omega, by omega⟩
                cases this
        rw [hkid] at there
        obtain ⟨t1, hv1, ht1⟩ := lit_there hT7 (there _ List.mem_cons_self)
        obtain ⟨t2, hv2, ht2⟩ := lit_there hT7 (there _ (List.mem_cons_of_mem _ List.mem_cons_self))
        have hrow := k7 _ _ (ha6 u (List.mem_of_getElem? hu)) (fun e => by have := ha6 u (List.mem_of_getElem? hu); rw [e, hdt6] at this; cases this)
        have hpa7 := k7 _ _ hpa np
        walk_at "go"
        refine g_ixL (SqL.of hpa7) (at_z (j := n - b) (by omega) (by rw [List.getElem?_map, hu]; rfl)) ?_
        walk_at "go"
        refine ⟨dt, kvs, u.2.1, t1, ls.length, rfl, hdt7, hv1, ht1.1, fun r1 hr1 hb1 => ?_⟩
        walk_at "go"
        refine ⟨dt, kvs, u.2.2, t2, ls.length, rfl, hdt7, hv2, ht2.1, fun r2 hr2 hb2 => ?_⟩
        walk_at "go"
        rw [bitAnd_pp (Int.natCast_nonneg _) (Int.natCast_nonneg _), Int.toNat_natCast, Int.toNat_natCast]
        refine WDict.g_putI hdt7 (sz_lt (by omega)) ?_
        walk_at "go"
        have hnls : n ∉ ls := fun h => by
          have hh := Rch.from (kidF_lt hR.2.2) |>.mp hrch
          simp [h] at hh
        refine ⟨_, _, _, _, rfl, k7.set, upd_same, by have := WDict.putK_le kvs (.inl (n : Int)) (.int ((r1 &&& r2 : Nat) : Int)); omega, hT7.put ⟨Nat.lt_of_le_of_lt Nat.and_le_left hr1, fun c hc => ?_⟩, fun m hm => ?_⟩
        · have := node_hi (ch := chosen ls c) _ _ rfl hR.2.2 _ _ hpsu
          rw [show b + (n - b) = n by omega, chosen_none hnls] at this
          rw [this, Nat.testBit_and, lit_bit ht1 hb1 c hc, lit_bit ht2 hb2 c hc]
          rfl
        · rw [put_in]
          by_cases e1 : m = n
          · simp [e1]
          · rw [hin7 m (by
              rcases hm with h | h | h
              · exact .inl h
              · exact .inr (.inl h)
              · rw [List.take_succ, hn] at h
                rcases List.mem_append.mp h with h | h
                · exact .inr (.inr h)
                · simp at h; exact absurd h e1)]
            simp
      · obtain ⟨y3, y4, y5, kvs, rfl, k7, hdt7, hk7, hT7, hin7⟩ := hP
        rw [nv_len, List.take_length] at hin7
        exact ⟨y3, y4, y5, kvs, rfl, k7, hdt7, hT7, hin7⟩
    obtain ⟨y3, y4, y5, kvs, rfl, k7, hdt7, hT7, hin7⟩ := hW
    have htop : (valV kvs (.inl ((L / 2 : Nat) : Int))).isSome = true := by
      by_cases hyl : L / 2 ∈ ls
      · exact hin7 _ (.inl hyl)
      · have hry : Rch (kidF b (r.map (·.2))) (fun n => decide (n ∈ ls)) (L / 2) (L / 2) := .top (by simpa using hyl)
        by_cases hyb : b ≤ L / 2
        · exact hin7 _ (.inr (.inr ((m1 _).mpr ⟨hry, hyb⟩)))
        · by_cases hy0 : L / 2 = 0
          · exact hin7 _ (.inr (.inl hy0))
          · have := (m2 _).mpr ⟨hry, by omega, by omega⟩
            cases this
    obtain ⟨t1, hv1, ht1⟩ := lit_there hT7 htop
    walk_at "go"
    refine ⟨dt, kvs, L, t1, ls.length, rfl, hdt7, hv1, ht1.1, fun r1 hr1 hb1 => ?_⟩
    exact q4 r1 H' (same_kp (s4.trans s6) k7 ndt) hr1 (lit_bit ht1 hb1)
end K22
set_option Elab.async false
set_option linter.all false
set_option maxRecDepth 100000
set_option maxHeartbeats 4000000
namespace K22
open PySem PySem.Spec PyProof.Rows L2 WL
local macro_rules | `(tactic| walk_at "lk") => `(tactic| first
  | apply upd_same
  | assumption
  | (rw [upd_ne (by assumption)]; first | exact upd_same | assumption | (rw [upd_ne (by assumption)]; first | exact upd_same | assumption | (rw [upd_ne (by assumption)]; first | exact upd_same | assumption))))
local macro_rules | `(tactic| walk_at "go1") => `(tactic| first
  | (with_reducible refine g_seq ?_)
  | (with_reducible refine g_asg ?_)
  | (with_reducible refine g_name ?_)
  | (with_reducible refine g_sub ?_)
  | ((with_reducible refine' g_var ?gv ?_); (case gv => apply Eq.refl))
  | (with_reducible refine g_c ?_)
  | (with_reducible refine g_op ?_)
  | (with_reducible refine g_un ?_)
  | (with_reducible refine g_I0 ?_)
  | ((with_reducible refine g_I ?gc ?_); (case gc => first | assumption | decide | (show (0 : Int) < _; omega) | refine Or.inr ⟨by omega, by omega⟩ | refine Or.inl ⟨by omega, by omega⟩ | refine ⟨by omega, by omega⟩))
  | (with_reducible refine iteT ?_)
  | (with_reducible refine iteF ?_)
  | (with_reducible refine iteNT ?_)
  | (with_reducible refine iteNF ?_)
  | (with_reducible refine g_andV ?_)
  | (with_reducible refine g_orV ?_)
  | ((with_reducible refine' g_lenS (by assumption) ?_))
  | ((with_reducible refine' g_lenS (SqL.of (by walk_at "lk")) ?_))
  | (with_reducible refine g_U ?_)
  | ((with_reducible refine' g_eq ?gs ?_); (case gs => rfl))
  | ((with_reducible refine g_ne ?gs ?_); (case gs => rfl))
  | (with_reducible refine g_drop ?_)
  | (with_reducible refine g_ret ?_)
  | (with_reducible refine g_next ?_)
  | (with_reducible refine g_ifS ?_)
  | (with_reducible refine g_ifE ?_)
  | (with_reducible refine g_test ?_)
  | (with_reducible refine g_tb ?_)
  | (with_reducible refine g_bl ?_)
  | (with_reducible refine g_not ?_)
  | (with_reducible refine g_and ?_)
  | (with_reducible refine g_or ?_)
  | (with_reducible refine g_nil ?_)
  | (with_reducible refine g_cons ?_)
  | (with_reducible refine g_cb ?_)
  | (with_reducible refine g_call ?_)
  | (with_reducible refine g_int ?_)
  | (with_reducible refine g_two ?_)
  | ((with_reducible refine g_lenStr ?gz ?_); (case gz => first | assumption | exact sz_le (by omega)))
  | (with_reducible refine g_m1 ?_)
  | (with_reducible refine g_isS ?_)
  | (with_reducible refine g_nn ?_)
  | (with_reducible refine g_yes ?_)
  | (with_reducible refine g_for ?_)
  | (with_reducible refine g_ckw ?_)
  | (with_reducible refine g_chain ?_)
  | (with_reducible refine g_gcons ?_)
  | (with_reducible refine g_gnil ?_)
  | (with_reducible refine g_notV ?_)
  | (with_reducible refine g_iZip ?_)
  | (with_reducible refine g_lc ?_)
  | (with_reducible refine g_lc2 ?_)
  | (with_reducible refine g_iList ?_)
  | (with_reducible refine g_iRng1 ?_)
  | (with_reducible refine g_iRng2 ?_)
  | (with_reducible refine g_sl ?_)
  | (with_reducible refine g_noPart ?_)
  | (with_reducible refine g_part ?_)
  | (with_reducible refine g_ex1 ?_)
  | (with_reducible refine g_bm ?_)
  | ((with_reducible refine' g_tyL (by walk_at "lk") ?_))
  | ((with_reducible refine' g_aug ?gv ?_); (case gv => exact rfl))
  | (with_reducible refine g_ipI ?_)
  | (with_reducible refine g_turn ?_)
  | (with_reducible refine g_brk ?_)
  | (with_reducible refine g_cont ?_)
  | (with_reducible refine g_sign ?_)
  | (with_reducible refine g_lst ?_)
  | (with_reducible refine g_tup ?_)
  | ((with_reducible refine' g_ixL (by assumption) ?ga ?_); (case ga => assumption))
  | ((with_reducible refine' g_ixL (SqL.of (by walk_at "lk")) ?ga ?_); (case ga => first | exact rfl | assumption))
  | ((with_reducible refine' g_ixT (SqT.of (by walk_at "lk")) ?ga ?_); (case ga => first | exact rfl | assumption))
  | ((with_reducible refine' g_lenT (SqT.of (by walk_at "lk")) ?_))
  | ((with_reducible refine' g_isiS (b := true) ?ga ?_); (case ga => decide +kernel))
  | ((with_reducible refine' g_isiS (b := false) ?ga ?_); (case ga => decide +kernel))
  | ((with_reducible refine' g_isiI (b := true) ?ga ?_); (case ga => decide +kernel))
  | ((with_reducible refine' g_isiI (b := false) ?ga ?_); (case ga => decide +kernel))
  | ((with_reducible refine' g_setL2 ?ga ?gb ?_); (case ga => exact rfl); (case gb => exact rfl))
  | ((with_reducible refine' g_setL (by walk_at "lk") ?ga ?gb ?_); (case ga => exact rfl); (case gb => exact rfl)))
local macro_rules | `(tactic| walk_at "go") => `(tactic| ((repeat walk_at "go1"); try dsimp only [List.set, List.cons_append, List.nil_append]))
local macro_rules | `(tactic| walk_at "go1") => `(tactic| first
  | (with_reducible refine WOwn.g_fl ?_)
  | (with_reducible refine WOwn.g_sfl ?_)
  | (with_reducible refine WOwn.g_make ?_)
  | (with_reducible refine WOwn.g_meth ?_)
  | (with_reducible refine WOwn.g_sm ?_)
  | (with_reducible refine WOwn.g_cv ?_))
local macro_rules | `(tactic| walk_at "go1") => `(tactic| first
  | (with_reducible refine WDict.g_dget ?_)
  | (with_reducible refine WDict.g_din ?_)
  | (with_reducible refine WDict.g_dnotin ?_)
  | (with_reducible refine WDict.g_dput ?_)
  | (with_reducible refine WDict.g_dnew ?_)
  | (with_reducible refine WDict.g_dget2 ?_)
  | (with_reducible refine WDict.g_dsetd ?_)
  | (with_reducible refine WDict.g_disp ?_)
  | (with_reducible refine WDict.g_pair ?_)
  | (with_reducible refine WDict.g_pair0 ?_)
  | (with_reducible refine WDict.g_tru ?_))
local macro_rules | `(tactic| walk_at "go1") => `(tactic| first
  | (with_reducible refine g_iEnum ?_)
  | (with_reducible refine g_iTup ?_)
  | (with_reducible refine g_bm0 ?_)
  | ((with_reducible refine' g_gTup (SqT.of (by walk_at "lk")) ?gn ?_); (case gn => exact rfl)))
/-- the bag of draws -/
def bagD (c : Addr) (x1 x2 x3 x4 x5 : Int) : List (Key × V) := [(.inr "great", .ref c), (.inr "at", .int x1), (.inr "rest", .int x2), (.inr "left", .int x3), (.inr "mixed", .int x4), (.inr "count", .int x5)]
structure Bg (x1 x2 x4 x5 : Int) (k : Nat) : Prop where
  a : 0 ≤ x1
  b : 0 ≤ x2
  b' : x2 < 2 ^ 1200
  c : 0 ≤ x4
  c' : x4 < 2147483629
  d : 0 ≤ x5
  d' : x5 ≤ k
def Bag (c b : Addr) (k : Nat) (H : Hp) : Prop := ∃ (cells : List Int) (x1 x2 x3 x4 x5 : Int), H b = some (.dK (bagD c x1 x2 x3 x4 x5)) ∧ H c = some (.lst (cells.map V.int)) ∧ (∀ z ∈ cells, 0 ≤ z ∧ z < 2 ^ 1200) ∧ Bg x1 x2 x4 x5 k
theorem Bag.put {c b p : Addr} {k : Nat} {H : Hp} {o : HO} (h : Bag c b k H) (nb : p ≠ b) (nc : p ≠ c) : Bag c b k (upd H p o) := by
  obtain ⟨cells, x1, x2, x3, x4, x5, hb, hc, h1⟩ := h
  exact ⟨cells, x1, x2, x3, x4, x5, by rw [upd_ne nb.symm]; exact hb, by rw [upd_ne nc.symm]; exact hc, h1⟩
theorem Bag.nb {c b p : Addr} {k : Nat} {H : Hp} (h : Bag c b k H) (np : H p = none) : p ≠ b ∧ p ≠ c := by
  obtain ⟨cells, x1, x2, x3, x4, x5, hb, hc, h1⟩ := h
  exact ⟨(ne_of_none hb np).symm, (ne_of_none hc np).symm⟩
theorem Bag.new {c b p : Addr} {k : Nat} {H : Hp} {o : HO} (h : Bag c b k H) (np : H p = none) : Bag c b k (upd H p o) := h.put (h.nb np).1 (h.nb np).2
theorem Bag.same {c b : Addr} {k : Nat} {H H' : Hp} (h : Bag c b k H) (s : Same H H') : Bag c b k H' := by
  obtain ⟨cells, x1, x2, x3, x4, x5, hb, hc, h1⟩ := h
  exact ⟨cells, x1, x2, x3, x4, x5, s _ _ hb, s _ _ hc, h1⟩
theorem Bag.mono {c b : Addr} {k j : Nat} {H : Hp} (h : Bag c b k H) (hk : k ≤ j) : Bag c b j H := by
  obtain ⟨cells, x1, x2, x3, x4, x5, hb, hc, h0, ⟨a1, a2, a3, a4, a5, a6, a7⟩⟩ := h
  exact ⟨cells, x1, x2, x3, x4, x5, hb, hc, h0, ⟨a1, a2, a3, a4, a5, a6, by omega⟩⟩
def spNum : Sp := fun vs H Q _ => ∃ z : Int, vs = [.int z] ∧ Q (.bl true) H
def spBag (K : PySem.W.Frag) : Sp := fun vs H Q _ => ∃ (a : Addr) (ns : List Int), vs = [.ref a] ∧ SqL K H a (ns.map V.int) ∧ ns.length ≤ 63 ∧ ∀ c b H', H b = none → H c = none → Same H H' → Bag c b 0 H' → Q (.ref b) H'
def spDraw : Sp := fun vs H Q _ => ∃ (b c : Addr) (k : Nat) (m : Int), vs = [.ref b, .int m] ∧ Bag c b k H ∧ k ≤ 100000 ∧ 1 ≤ m ∧ m ≤ 1000000 ∧ ∀ (d : Nat) H', (d : Int) < m → Kp b H H' → Bag c b (k + 1) H' → Q (.int (d : Int)) H'
theorem g_draw {b c : Addr} {k : Nat} {m : Int} {H : Hp} {Q : VK} {E : XK} (hB : Bag c b k H) (hk : k ≤ 100000) (h1 : 1 ≤ m) (h2 : m ≤ 1000000) (q : ∀ (d : Nat) H', (d : Int) < m → Kp b H H' → Bag c b (k + 1) H' → Q (.int (d : Int)) H') : spDraw [.ref b, .int m] H Q E := ⟨b, c, k, m, rfl, hB, hk, h1, h2, q⟩
section
variable {c : Addr} {x1 x2 x3 x4 x5 z : Int}
theorem bd1 : valV (bagD c x1 x2 x3 x4 x5) (.inr "great") = some (.ref c) := rfl
theorem bd2 : valV (bagD c x1 x2 x3 x4 x5) (.inr "at") = some (.int x1) := rfl
theorem bd3 : valV (bagD c x1 x2 x3 x4 x5) (.inr "rest") = some (.int x2) := rfl
theorem bd4 : valV (bagD c x1 x2 x3 x4 x5) (.inr "left") = some (.int x3) := rfl
theorem bd5 : valV (bagD c x1 x2 x3 x4 x5) (.inr "mixed") = some (.int x4) := rfl
theorem bd6 : valV (bagD c x1 x2 x3 x4 x5) (.inr "count") = some (.int x5) := rfl
theorem bdl : (bagD c x1 x2 x3 x4 x5).length < sizeLine := Nat.lt_of_lt_of_le (m := 7) (by show 6 < 7; decide) (by decide)
theorem bp2 : putK (bagD c x1 x2 x3 x4 x5) (.inr "at") (.int z) = bagD c z x2 x3 x4 x5 := rfl
theorem bp3 : putK (bagD c x1 x2 x3 x4 x5) (.inr "rest") (.int z) = bagD c x1 z x3 x4 x5 := rfl
theorem bp4 : putK (bagD c x1 x2 x3 x4 x5) (.inr "left") (.int z) = bagD c x1 x2 z x4 x5 := rfl
theorem bp6 : putK (bagD c x1 x2 x3 x4 x5) (.inr "count") (.int z) = bagD c x1 x2 x3 x4 z := rfl
end
variable {P : Program} {w : World} {K : PySem.W.Frag} {mg : Str → Option Value} {base : Heap} {dA : Nat → Addr}
local macro_rules | `(tactic| walk_at "go1") => `(tactic| first
  | (with_reducible refine WDict.g_getS (by walk_at "lk") bd1 ?_)
  | (with_reducible refine WDict.g_getS (by walk_at "lk") bd2 ?_)
  | (with_reducible refine WDict.g_getS (by walk_at "lk") bd3 ?_)
  | (with_reducible refine WDict.g_getS (by walk_at "lk") bd4 ?_)
  | (with_reducible refine WDict.g_getS (by walk_at "lk") bd5 ?_)
  | (with_reducible refine WDict.g_getS (by walk_at "lk") bd6 ?_))
theorem ok__law_is_number (T : Txt K mg dA)  {f : Addr} {fd : FuncData} (F : Fun K "_law_is_number" "_law_is_number" s__law_is_number f fd) : FnOk P w K mg base CX0 1 f fd ["thing"] spNum := by
  refine F.ok sc__law_is_number (fun vs H Q E h => ?_) (fun cdv A outer s H vs Q E hr h => ?_)
  · obtain ⟨z, rfl, _⟩ := h
    rfl
  obtain ⟨z, rfl, q⟩ := h
  refine ⟨_, (pss_one (ps_ret (pe_and (pe_callB (kcall_isi K) (by rfl) T.b_isinstance (by decide +kernel) (pa_cons (pv 0) (pa_cons (pe_bltn (v := .ty "int") (by rfl) T.b_int (by decide +kernel) rfl) pa_nil))) (pe_one (pe_not (pe_callB (kcall_isi K) (by rfl) T.b_isinstance (by decide +kernel) (pa_cons (pv 0) (pa_cons (pe_bltn (v := .ty "bool") (by rfl) T.b_bool (by decide +kernel) rfl) pa_nil)))))))), ?_⟩
  rw [show (L2.start ["thing"] [.int z] : L2.St) = [some (.int z)] from rfl]
  try simp only [WL.cxK]
  walk_at "go"
  exact q
theorem ok__law_bag (T : Txt K mg dA)  {f : Addr} {fd : FuncData} (F : Fun K "_law_bag" "_law_bag" s__law_bag f fd) : FnOk P w K mg base CX0 1 f fd ["script"] (spBag K) := by
  refine F.ok sc__law_bag (fun vs H Q E h => ?_) (fun cdv A outer s H vs Q E hr h => ?_)
  · obtain ⟨a, ns, rfl, _⟩ := h
    rfl
  obtain ⟨a, ns, rfl, hS, hl, q⟩ := h
  refine ⟨_, (pss_cons (ps_setLc (i := 1) (own := [("cell", 3)]) rfl sc__law_bag.nd rfl rfl (sw_true rfl rfl rfl (by decide +kernel)) (kpi_list K (pe_slice (ksl_list K) (pv 0) po_none (po_some pe_int))) (blkOk_by (own := [("cell", 3)]) (N := ["script", "great", "mixed", "cell"]) (sc := defScope s__law_bag) (by decide +kernel)) (fun _ _ _ _ _ => (pg_name (i := 3) sc__law_bag.nd rfl (.inl rfl))) (fun _ _ _ _ _ => (pts_one (pt_cmpR op_ge (pv 3) (pe_op op_pow pe_int pe_int) (nomark _)))) (fun _ _ _ _ _ => (pe_op op_mod (pe_callTy call_int1 (by rfl) T.b_int (by decide +kernel) (pa_cons (pv 3) pa_nil)) (pe_op op_shl pe_int pe_int))))
      (pss_cons (ps_set (i := 2) sc__law_bag.nd rfl (.inl rfl) pe_int)
      (pss_cons (ps_for PassesOwn.never rfl (kpi_list K (pe_slice (ksl_list K) (pv 0) po_none (po_some pe_int))) (pg_name (i := 3) sc__law_bag.nd rfl (.inl rfl)) (pss_one (ps_set (i := 2) sc__law_bag.nd rfl (.inl rfl) (pe_op op_mod (pe_callTy call_int1 (by rfl) T.b_int (by decide +kernel) (pa_cons (pe_op op_add (pe_op op_add (pe_op op_mul (pv 2) pe_int) (pe_op op_mod (pe_callTy call_int1 (by rfl) T.b_int (by decide +kernel) (pa_cons (pv 3) pa_nil)) pe_int)) pe_int) pa_nil)) pe_int))))
      (pss_one (ps_ret (pe_disp (pps_cons pe_str (pv 1) (pps_cons pe_str pe_int (pps_cons pe_str pe_int (pps_cons pe_str pe_int (pps_cons pe_str (pv 2) (pps_cons pe_str pe_int pps_nil)))))) (by rfl) (by rfl) (fun z => by cases z) (by decide))))))), ?_⟩
  rw [show (L2.start ["script", "great", "mixed", "cell"] [.ref a] : L2.St) = [some (.ref a), none, none, none] from rfl]
  try simp only [WL.cxK]
  walk_at "go"
  refine g_slL hS (cut_to _ 63) fun sl nsl => ?_
  rw [List.take_of_length_le (by rw [List.length_map]; exact hl)]
  have s1 : Same H (upd H sl (.lst (ns.map V.int))) := same_new nsl
  have hsl : upd H sl (.lst (ns.map V.int)) sl = some (.lst (ns.map V.int)) := upd_same
  generalize upd H sl (.lst (ns.map V.int)) = H1 at s1 hsl ⊢
  refine f_lcL (SqL.of hsl) (fun D i H' => ∃ gs : List Int, H' = upd H1 D (.lst (gs.map V.int)) ∧ gs.length ≤ i ∧ ∀ z ∈ gs, 0 ≤ z ∧ z < 2 ^ 1200) (fun D nD => ⟨[], rfl, Nat.le_refl _, fun _ h => by cases h⟩) (fun D i H' nD _ hP => ?_) (fun D i x H' nD hx hP => ?_) (fun D H' nD hP => ?_)
  · obtain ⟨gs, rfl, _⟩ := hP
    exact SqL.of (same_new nD _ _ hsl)
  · obtain ⟨gs, rfl, hgl, hg⟩ := hP
    obtain ⟨z, hz, rfl⟩ := map_at hx
    have hi := lt_at hz
    walk_at "go"
    refine ⟨rfl, ?_⟩
    walk_at "go"
    refine g_ite (fun e => ?_) (fun e => ?_)
    · walk_at "go"
      have hp : (0 : Int) < 2 ^ 1200 := Int.pow_pos (by decide)
      rw [show (1 : Int) * 2 ^ Int.toNat 1200 = 2 ^ 1200 from Int.one_mul _]
      refine ⟨_, upd_same, by rw [List.length_map]; exact sz_lt (by omega), gs ++ [z % 2 ^ 1200], by rw [upd_upd, List.map_append]; rfl, by simp; omega, fun y hy => ?_⟩
      rcases List.mem_append.mp hy with hy | hy
      · exact hg y hy
      · rw [List.mem_singleton.mp hy]
        exact ⟨Int.emod_nonneg _ (Int.ne_of_gt hp), Int.emod_lt_of_pos _ hp⟩
    · walk_at "go"
      exact ⟨gs, rfl, by omega, hg⟩
  obtain ⟨gs, rfl, hgl, hg⟩ := hP
  have s2 := s1.trans (same_new (o := .lst (gs.map V.int)) nD)
  have nD0 := s1.free nD
  have hD : upd H1 D (.lst (gs.map V.int)) D = some (.lst (gs.map V.int)) := upd_same
  generalize upd H1 D (.lst (gs.map V.int)) = H2 at s2 hD ⊢
  walk_at "go"
  refine g_slL (s2.seq hS) (cut_to _ 63) fun s3 ns3 => ?_
  rw [List.take_of_length_le (by rw [List.length_map]; exact hl)]
  have s4 := s2.trans (same_new (o := .lst (ns.map V.int)) ns3)
  have hs3 : upd H2 s3 (.lst (ns.map V.int)) s3 = some (.lst (ns.map V.int)) := upd_same
  have hD3 := same_new ns3 (o := .lst (ns.map V.int)) _ _ hD
  generalize upd H2 s3 (.lst (ns.map V.int)) = H3 at s4 hs3 hD3 ⊢
  refine f_list (SqL.of hs3) (fun i σ' H' => ∃ (z : Int) (y : Option V), σ' = [some (.ref a), some (.ref D), some (.int z), y] ∧ H' = H3 ∧ 0 ≤ z ∧ z < 2147483629) ⟨_, _, rfl, rfl, by decide, by decide⟩ (fun i σ' H' _ hP => ?_) (fun i x σ' H' hx hP => ?_) (fun σ' H' hP => ?_)
  · obtain ⟨z, y, rfl, rfl, _⟩ := hP
    exact SqL.of hs3
  · obtain ⟨z, y, rfl, rfl, h1, h2⟩ := hP
    obtain ⟨x, hz, rfl⟩ := map_at hx
    walk_at "go"
    exact ⟨_, _, rfl, rfl, Int.emod_nonneg _ (by decide), Int.emod_lt_of_pos _ (by decide)⟩
  · obtain ⟨z, y, rfl, rfl, h1, h2⟩ := hP
    walk_at "go"
    intro p np
    walk_at "go"
    refine WDict.g_shown (kvs := bagD D 0 0 0 z 0) (m := bagD D 0 0 0 z 0) (by show 6 ≤ 15; decide) rfl ?_ rfl
    have nDp : D ≠ p := ne_of_none hD3 np
    exact q D p _ (s4.free np) nD0 (s4.trans (same_new np)) ⟨gs, 0, 0, 0, z, 0, upd_same, by rw [upd_ne nDp]; exact hD3, hg, ⟨by decide, by decide, Int.pow_pos (by decide), h1, h2, by decide, by decide⟩⟩
theorem ok__law_draw (T : Txt K mg dA)  {f : Addr} {fd : FuncData} (F : Fun K "_law_draw" "_law_draw" s__law_draw f fd) : FnOk P w K mg base CX0 1 f fd ["bag", "size"] spDraw := by
  refine F.ok sc__law_draw (fun vs H Q E h => ?_) (fun cdv A outer s H vs Q E hr h => ?_)
  · obtain ⟨b, c, k, m, rfl, _⟩ := h
    rfl
  obtain ⟨b, c, k, m, rfl, ⟨cells, x1, x2, x3, x4, x5, hb, hc, h0, ⟨a1, a2, a3, a4, a5, a6, a7⟩⟩, hk, hm1, hm2, q⟩ := h
  refine ⟨_, (pss_cons (ps_dput (hu_of hr) (pv 0) pe_str (pe_op op_add (pe_dget (hu_of hr) (pv 0) pe_str (fun _ _ => rfl)) pe_int) (by rfl))
      (Evl.pss_cut (ps_if (PW.pt (pw_or (pt_cmpR op_eq (pe_dget (hu_of hr) (pv 0) pe_str (fun _ _ => rfl)) pe_int (nomark _)) (pw_or1 (pt_cmpR op_eq (pe_dget (hu_of hr) (pv 0) pe_str (fun _ _ => rfl)) pe_int (nomark _))))) (pss_cons (ps_dput (hu_of hr) (pv 0) pe_str pe_int (by rfl))
      (pss_one (ps_if (pt_cmpR op_lt (pe_dget (hu_of hr) (pv 0) pe_str (fun _ _ => rfl)) (pe_callB (kcall_len_seq K) (by rfl) T.b_len (by decide +kernel) (pa_cons (pe_dget (hu_of hr) (pv 0) pe_str (fun _ _ => rfl)) pa_nil)) (nomark _)) (pss_cons (ps_dput (hu_of hr) (pv 0) pe_str (pe_ix (kix_list K) (pe_dget (hu_of hr) (pv 0) pe_str (fun _ _ => rfl)) (pe_dget (hu_of hr) (pv 0) pe_str (fun _ _ => rfl)) (fun _ _ => rfl)) (by rfl))
      (pss_cons (ps_dput (hu_of hr) (pv 0) pe_str pe_int (by rfl))
      (pss_one (ps_dput (hu_of hr) (pv 0) pe_str (pe_op op_add (pe_dget (hu_of hr) (pv 0) pe_str (fun _ _ => rfl)) pe_int) (by rfl))))) pss_nil))) pss_nil)
      (pss_cons (ps_if (pt_cmpR op_gt (pe_dget (hu_of hr) (pv 0) pe_str (fun _ _ => rfl)) pe_int (nomark _)) (pss_cons (ps_set (i := 2) sc__law_draw.nd rfl (.inl rfl) (pe_op op_mod (pe_callTy call_int1 (by rfl) T.b_int (by decide +kernel) (pa_cons (pe_dget (hu_of hr) (pv 0) pe_str (fun _ _ => rfl)) pa_nil)) (pv 1)))
      (pss_cons (ps_dput (hu_of hr) (pv 0) pe_str (pe_op op_fdiv (pe_dget (hu_of hr) (pv 0) pe_str (fun _ _ => rfl)) (pv 1)) (by rfl))
      (pss_cons (ps_dput (hu_of hr) (pv 0) pe_str (pe_op op_sub (pe_dget (hu_of hr) (pv 0) pe_str (fun _ _ => rfl)) pe_int) (by rfl))
      (pss_one (ps_ret (pv 2)))))) pss_nil)
      (pss_cons (ps_set (i := 3) sc__law_draw.nd rfl (.inl rfl) (pe_op op_add (pe_dget (hu_of hr) (pv 0) pe_str (fun _ _ => rfl)) (pe_op op_mul (pe_dget (hu_of hr) (pv 0) pe_str (fun _ _ => rfl)) pe_int)))
      (pss_cons (ps_set (i := 4) sc__law_draw.nd rfl (.inl rfl) (pe_op op_mod (pe_callTy call_int1 (by rfl) T.b_int (by decide +kernel) (pa_cons (pe_op op_add (pe_op op_add (pe_op op_mul (pv 3) (pv 3)) (pe_op op_mul pe_int (pv 3))) pe_int) pa_nil)) pe_int))
      (pss_cons (ps_set (i := 5) sc__law_draw.nd rfl (.inl rfl) (pe_op op_mod (pe_callTy call_int1 (by rfl) T.b_int (by decide +kernel) (pa_cons (pe_op op_mul (pe_op op_add (pv 4) (pe_op op_mul (pe_dget (hu_of hr) (pv 0) pe_str (fun _ _ => rfl)) pe_int)) (pe_op op_add (pv 4) pe_int)) pa_nil)) pe_int))
      (pss_one (ps_ret (pe_op op_mod (pe_op op_fdiv (pv 5) pe_int) (pv 1)))))))))), ?_⟩
  rw [show (L2.start ["bag", "size", "drawn", "one", "two", "three"] [.ref b, .int m] : L2.St) = [some (.ref b), some (.int m), none, none, none, none] from rfl]
  try simp only [WL.cxK]
  walk_at "go"
  refine WDict.g_putS hb bdl ?_
  rw [bp6]
  have nbc : c ≠ b := fun e => by rw [e, hb] at hc; cases hc
  have k1 : Kp b H (upd H b (.dK (bagD c x1 x2 x3 x4 (x5 + 1)))) := (Kp.refl H).set
  have hb1 : upd H b (.dK (bagD c x1 x2 x3 x4 (x5 + 1))) b = some (.dK (bagD c x1 x2 x3 x4 (x5 + 1))) := upd_same
  have hc1 := k1 _ _ hc nbc
  generalize upd H b (.dK (bagD c x1 x2 x3 x4 (x5 + 1))) = H1 at k1 hb1 hc1 ⊢
  walk_at "go"
  refine ⟨fun σ' H' => ∃ (x1 x2 x3 : Int), σ' = [some (.ref b), some (.int m), none, none, none, none] ∧ H' b = some (.dK (bagD c x1 x2 x3 x4 (x5 + 1))) ∧ H' c = some (.lst (cells.map V.int)) ∧ 0 ≤ x1 ∧ 0 ≤ x2 ∧ x2 < 2 ^ 1200 ∧ Kp b H H', ?_, fun σ' H' hW => ?_⟩
  · have stay : ∃ (y1 y2 y3 : Int), ([some (.ref b), some (.int m), none, none, none, none] : L2.St) = [some (.ref b), some (.int m), none, none, none, none] ∧ H1 b = some (.dK (bagD c y1 y2 y3 x4 (x5 + 1))) ∧ H1 c = some (.lst (cells.map V.int)) ∧ 0 ≤ y1 ∧ 0 ≤ y2 ∧ y2 < 2 ^ 1200 ∧ Kp b H H1 := ⟨x1, x2, x3, rfl, hb1, hc1, a1, a2, a3, k1⟩
    walk_at "go"
    refine g_iteI (fun e => ?_) (fun e => ?_)
    rotate_left
    walk_at "go"
    refine g_iteI (fun e => ?_) (fun e => ?_)
    rotate_left
    focus
      walk_at "go"
      exact stay
    all_goals
      walk_at "go"
      refine WDict.g_putS hb1 bdl ?_
      rw [bp3]
      have hb2 : upd H1 b (.dK (bagD c x1 0 x3 x4 (x5 + 1))) b = some (.dK (bagD c x1 0 x3 x4 (x5 + 1))) := upd_same
      have k2 : Kp b H (upd H1 b (.dK (bagD c x1 0 x3 x4 (x5 + 1)))) := k1.set
      have hc2 := k2 _ _ hc nbc
      generalize upd H1 b (.dK (bagD c x1 0 x3 x4 (x5 + 1))) = H2 at k2 hb2 hc2 ⊢
      walk_at "go"
      rw [List.length_map]
      refine g_ite (fun e3 => ?_) (fun e3 => ?_)
      · have hj : x1.toNat < cells.length := by omega
        have hcell : (cells.map V.int)[x1.toNat]? = some (.int cells[x1.toNat]) := by rw [List.getElem?_map, List.getElem?_eq_getElem hj]; rfl
        have hcr := h0 _ (List.getElem_mem hj)
        generalize cells[x1.toNat] = cell at hcell hcr
        walk_at "go"
        refine g_ixL (SqL.of hc2) (at_z (j := x1.toNat) (by omega) hcell) ?_
        walk_at "go"
        refine WDict.g_putS hb2 bdl ?_
        rw [bp3]
        walk_at "go"
        refine WDict.g_putS upd_same bdl ?_
        rw [bp4, upd_upd]
        walk_at "go"
        refine WDict.g_putS upd_same bdl ?_
        rw [bp2, upd_upd]
        walk_at "go"
        exact ⟨_, _, _, rfl, upd_same, by rw [upd_ne nbc]; exact hc2, by omega, hcr.1, hcr.2, k2.set⟩
      · walk_at "go"
        exact ⟨_, _, _, rfl, hb2, hc2, a1, by decide, Int.pow_pos (by decide), k2⟩
  obtain ⟨x1, x2, x3, rfl, hb1, hc1, a1, a2, a3, k1⟩ := hW
  have a6' : (0 : Int) ≤ x5 + 1 := by omega
  have a7' : x5 + 1 ≤ ((k + 1 : Nat) : Int) := by omega
  walk_at "go"
  refine g_ite (fun e => ?_) (fun e => ?_)
  · walk_at "go"
    refine WDict.g_putS hb1 bdl ?_
    rw [bp3]
    walk_at "go"
    refine WDict.g_putS upd_same bdl ?_
    rw [bp4, upd_upd]
    walk_at "go"
    have hm0 := Int.emod_nonneg x2 (show m ≠ 0 by omega)
    have hml := Int.emod_lt_of_pos x2 (show 0 < m by omega)
    obtain ⟨d, hd⟩ : ∃ d : Nat, x2 % m = d := ⟨(x2 % m).toNat, by omega⟩
    rw [hd] at hml ⊢
    have hdiv : x2 / m ≤ x2 := Int.ediv_le_self _ a2
    exact q d _ hml k1.set ⟨cells, _, _, _, _, _, upd_same, by rw [upd_ne nbc]; exact hc1, h0, ⟨a1, Int.ediv_nonneg a2 (by omega), Int.lt_of_le_of_lt hdiv a3, a4, a5, a6', a7'⟩⟩
  · walk_at "go"
    have h2 := Int.emod_nonneg ((x4 + (x5 + 1) * 48271) * (x4 + (x5 + 1) * 48271) + 7 * (x4 + (x5 + 1) * 48271) + 11) (show (2147483587 : Int) ≠ 0 by decide)
    have h3 := Int.emod_lt_of_pos ((x4 + (x5 + 1) * 48271) * (x4 + (x5 + 1) * 48271) + 7 * (x4 + (x5 + 1) * 48271) + 11) (show (0 : Int) < 2147483587 by decide)
    generalize ((x4 + (x5 + 1) * 48271) * (x4 + (x5 + 1) * 48271) + 7 * (x4 + (x5 + 1) * 48271) + 11) % 2147483587 = two at h2 h3 ⊢
    have hm0 := Int.emod_nonneg ((two + (x5 + 1) * 69621) * (two + 40692) % 2147483647 / 8) (show m ≠ 0 by omega)
    have hml := Int.emod_lt_of_pos ((two + (x5 + 1) * 69621) * (two + 40692) % 2147483647 / 8) (show 0 < m by omega)
    generalize (two + (x5 + 1) * 69621) * (two + 40692) % 2147483647 / 8 % m = d at hm0 hml ⊢
    obtain ⟨d, rfl⟩ : ∃ n : Nat, d = n := ⟨d.toNat, by omega⟩
    exact q d _ hml k1 ⟨cells, _, _, _, _, _, hb1, hc1, h0, ⟨a1, a2, a3, a4, a5, a6', a7'⟩⟩
end K22
set_option Elab.async false
set_option linter.all false
set_option maxRecDepth 100000
set_option maxHeartbeats 4000000
namespace K22
open PySem PySem.Spec PyProof.Rows L2 WL
local macro_rules | `(tactic| walk_at "lk") => `(tactic| first
  | apply upd_same
  | assumption
  | (rw [upd_ne (by assumption)]; first | exact upd_same | assumption | (rw [upd_ne (by assumption)]; first | exact upd_same | assumption | (rw [upd_ne (by assumption)]; first | exact upd_same | assumption))))
local macro_rules | `(tactic| walk_at "go1") => `(tactic| first
  | (with_reducible refine g_seq ?_)
  | (with_reducible refine g_asg ?_)
  | (with_reducible refine g_name ?_)
  | (with_reducible refine g_sub ?_)
  | ((with_reducible refine' g_var ?gv ?_); (case gv => apply Eq.refl))
  | (with_reducible refine g_c ?_)
  | (with_reducible refine g_op ?_)
  | (with_reducible refine g_un ?_)
  | (with_reducible refine g_I0 ?_)
  | ((with_reducible refine g_I ?gc ?_); (case gc => first | assumption | decide | (show (0 : Int) < _; omega) | refine Or.inr ⟨by omega, by omega⟩ | refine Or.inl ⟨by omega, by omega⟩ | refine ⟨by omega, by omega⟩))
  | (with_reducible refine iteT ?_)
  | (with_reducible refine iteF ?_)
  | (with_reducible refine iteNT ?_)
  | (with_reducible refine iteNF ?_)
  | (with_reducible refine g_andV ?_)
  | (with_reducible refine g_orV ?_)
  | ((with_reducible refine' g_lenS (by assumption) ?_))
  | ((with_reducible refine' g_lenS (SqL.of (by walk_at "lk")) ?_))
  | (with_reducible refine g_U ?_)
  | ((with_reducible refine' g_eq ?gs ?_); (case gs => rfl))
  | ((with_reducible refine g_ne ?gs ?_); (case gs => rfl))
  | (with_reducible refine g_drop ?_)
  | (with_reducible refine g_ret ?_)
  | (with_reducible refine g_next ?_)
  | (with_reducible refine g_ifS ?_)
  | (with_reducible refine g_ifE ?_)
  | (with_reducible refine g_test ?_)
  | (with_reducible refine g_tb ?_)
  | (with_reducible refine g_bl ?_)
  | (with_reducible refine g_not ?_)
  | (with_reducible refine g_and ?_)
  | (with_reducible refine g_or ?_)
  | (with_reducible refine g_nil ?_)
  | (with_reducible refine g_cons ?_)
  | (with_reducible refine g_cb ?_)
  | (with_reducible refine g_call ?_)
  | (with_reducible refine g_int ?_)
  | (with_reducible refine g_two ?_)
  | ((with_reducible refine g_lenStr ?gz ?_); (case gz => first | assumption | exact sz_le (by omega)))
  | (with_reducible refine g_m1 ?_)
  | (with_reducible refine g_isS ?_)
  | (with_reducible refine g_nn ?_)
  | (with_reducible refine g_yes ?_)
  | (with_reducible refine g_for ?_)
  | (with_reducible refine g_ckw ?_)
  | (with_reducible refine g_chain ?_)
  | (with_reducible refine g_gcons ?_)
  | (with_reducible refine g_gnil ?_)
  | (with_reducible refine g_notV ?_)
  | (with_reducible refine g_iZip ?_)
  | (with_reducible refine g_lc ?_)
  | (with_reducible refine g_lc2 ?_)
  | (with_reducible refine g_iList ?_)
  | (with_reducible refine g_iRng1 ?_)
  | (with_reducible refine g_iRng2 ?_)
  | (with_reducible refine g_sl ?_)
  | (with_reducible refine g_noPart ?_)
  | (with_reducible refine g_part ?_)
  | (with_reducible refine g_ex1 ?_)
  | (with_reducible refine g_bm ?_)
  | ((with_reducible refine' g_tyL (by walk_at "lk") ?_))
  | ((with_reducible refine' g_aug ?gv ?_); (case gv => exact rfl))
  | (with_reducible refine g_ipI ?_)
  | (with_reducible refine g_turn ?_)
  | (with_reducible refine g_brk ?_)
  | (with_reducible refine g_cont ?_)
  | (with_reducible refine g_sign ?_)
  | (with_reducible refine g_lst ?_)
  | (with_reducible refine g_tup ?_)
  | ((with_reducible refine' g_ixL (by assumption) ?ga ?_); (case ga => assumption))
  | ((with_reducible refine' g_ixL (SqL.of (by walk_at "lk")) ?ga ?_); (case ga => first | exact rfl | assumption))
  | ((with_reducible refine' g_ixT (SqT.of (by walk_at "lk")) ?ga ?_); (case ga => first | exact rfl | assumption))
  | ((with_reducible refine' g_lenT (SqT.of (by walk_at "lk")) ?_))
  | ((with_reducible refine' g_isiS (b := true) ?ga ?_); (case ga => decide +kernel))
  | ((with_reducible refine' g_isiS (b := false) ?ga ?_); (case ga => decide +kernel))
  | ((with_reducible refine' g_isiI (b := true) ?ga ?_); (case ga => decide +kernel))
  | ((with_reducible refine' g_isiI (b := false) ?ga ?_); (case ga => decide +kernel))
  | ((with_reducible refine' g_setL2 ?ga ?gb ?_); (case ga => exact rfl); (case gb => exact rfl))
  | ((with_reducible refine' g_setL (by walk_at "lk") ?ga ?gb ?_); (case ga => exact rfl); (case gb => exact rfl)))
local macro_rules | `(tactic| walk_at "go") => `(tactic| ((repeat walk_at "go1"); try dsimp only [List.set, List.cons_append, List.nil_append]))
local macro_rules | `(tactic| walk_at "go1") => `(tactic| first
  | (with_reducible refine WOwn.g_fl ?_)
  | (with_reducible refine WOwn.g_sfl ?_)
  | (with_reducible refine WOwn.g_make ?_)
  | (with_reducible refine WOwn.g_meth ?_)
  | (with_reducible refine WOwn.g_sm ?_)
  | (with_reducible refine WOwn.g_cv ?_))
local macro_rules | `(tactic| walk_at "go1") => `(tactic| first
  | (with_reducible refine WDict.g_dget ?_)
  | (with_reducible refine WDict.g_din ?_)
  | (with_reducible refine WDict.g_dnotin ?_)
  | (with_reducible refine WDict.g_dput ?_)
  | (with_reducible refine WDict.g_dnew ?_)
  | (with_reducible refine WDict.g_dget2 ?_)
  | (with_reducible refine WDict.g_dsetd ?_)
  | (with_reducible refine WDict.g_disp ?_)
  | (with_reducible refine WDict.g_pair ?_)
  | (with_reducible refine WDict.g_pair0 ?_)
  | (with_reducible refine WDict.g_tru ?_))
local macro_rules | `(tactic| walk_at "go1") => `(tactic| first
  | (with_reducible refine g_iEnum ?_)
  | (with_reducible refine g_iTup ?_)
  | (with_reducible refine g_bm0 ?_)
  | ((with_reducible refine' g_gTup (SqT.of (by walk_at "lk")) ?gn ?_); (case gn => exact rfl)))
local macro_rules | `(tactic| walk_at "go1") => `(tactic| first
  | (with_reducible refine WDict.g_getS (by walk_at "lk") bd1 ?_)
  | (with_reducible refine WDict.g_getS (by walk_at "lk") bd2 ?_)
  | (with_reducible refine WDict.g_getS (by walk_at "lk") bd3 ?_)
  | (with_reducible refine WDict.g_getS (by walk_at "lk") bd4 ?_)
  | (with_reducible refine WDict.g_getS (by walk_at "lk") bd5 ?_)
  | (with_reducible refine WDict.g_getS (by walk_at "lk") bd6 ?_))
/-- the world that is made -/
def madeD (n : Int) (b : Nat) (lp da : Addr) (vc : V) (ex : List (Key × V)) : List (Key × V) := (.inr "bits", .int n) :: (.inr "first", .int (b : Int)) :: (.inr "pairs", .ref lp) :: (.inr "at", .ref da) :: (.inr "chain", vc) :: ex
section
variable {n : Int} {b : Nat} {lp da : Addr} {vc z : V} {ex : List (Key × V)}
theorem md2 : valV (madeD n b lp da vc ex) (.inr "first") = some (.int (b : Int)) := rfl
theorem md3 : valV (madeD n b lp da vc ex) (.inr "pairs") = some (.ref lp) := rfl
theorem md4 : valV (madeD n b lp da vc ex) (.inr "at") = some (.ref da) := rfl
theorem md5 : valV (madeD n b lp da vc ex) (.inr "chain") = some vc := rfl
end
structure MA (m lp da : Addr) (b : Nat) (r : Pairs) (n : Int) (vc : V) (ex : List (Key × V)) (H : Hp) : Prop where
  d : H m = some (.dK (madeD n b lp da vc ex))
  l : H lp = some (.lst (r.map fun t => V.ref t.1))
  p : PrAt H r
  a : ∃ kvs : List (List Key × V), H da = some (.dT kvs) ∧ kvs.length ≤ r.length ∧ ∀ k v, valV kvs k = some v → ∃ L : Nat, v = .int (L : Int) ∧ 2 * b ≤ L ∧ L < 2 * (b + r.length)
  ok : PrOk b (r.map (·.2))
theorem MA.same {m lp da : Addr} {b : Nat} {r : Pairs} {n : Int} {vc : V} {ex : List (Key × V)} {H H' : Hp} (h : MA m lp da b r n vc ex H) (s : Same H H') : MA m lp da b r n vc ex H' := by
  obtain ⟨h1, h2, h3, ⟨kvs, h4, h5⟩, h6⟩ := h
  exact ⟨s _ _ h1, s _ _ h2, h3.same s, ⟨kvs, s _ _ h4, h5⟩, h6⟩
/-- all but two stays -/
def Fr (a c : Addr) (H H' : Hp) : Prop := ∀ x o, H x = some o → x ≠ a → x ≠ c → H' x = some o
theorem Fr.refl {a c : Addr} (H : Hp) : Fr a c H H := fun _ _ h _ _ => h
theorem Fr.same {a c : Addr} {H H' : Hp} (s : Same H H') : Fr a c H H' := fun _ _ h _ _ => s _ _ h
theorem Fr.trans {a c : Addr} {H H1 H2 : Hp} (p : Fr a c H H1) (q : Fr a c H1 H2) : Fr a c H H2 := fun x o h n1 n2 => q x o (p x o h n1 n2) n1 n2
theorem MA.kp {m lp da g : Addr} {b : Nat} {r : Pairs} {n : Int} {vc : V} {ex : List (Key × V)} {H H' : Hp} {c : Addr} {k : Nat} (h : MA m lp da b r n vc ex H) (s : Kp g H H') (B : Bag c g k H) : MA m lp da b r n vc ex H' := by
  obtain ⟨h1, h2, h3, ⟨kvs, h4, h5⟩, h6⟩ := h
  obtain ⟨cells, x1, x2, x3, x4, x5, hb, _⟩ := B
  have n1 : m ≠ g := fun e => by
    rw [e, hb] at h1
    injection h1 with h1
    injection h1 with h1
    have h7 := congrArg (fun l : List (Key × V) => (l.head?.map (·.1) : Option Key)) h1
    exact absurd h7 (by show ¬ some (Sum.inr (Str.ofString "great") : Key) = some (Sum.inr (Str.ofString "bits")); decide)
  have n2 : lp ≠ g := fun e => by rw [e, hb] at h2; cases h2
  have n4 : da ≠ g := fun e => by rw [e, hb] at h4; cases h4
  exact ⟨s _ _ h1 n1, s _ _ h2 n2, (fun t ht => s _ _ (h3 t ht) fun e => by have := h3 t ht; rw [e, hb] at this; cases this), ⟨kvs, s _ _ h4 n4, h5⟩, h6⟩
/-- a literal that stands: below the end, and not above the two it was made from, or an AND's -/
def LitOk (b k x y L : Nat) : Prop := L < 2 * (b + k) ∧ (L / 2 = 0 ∨ L / 2 = x / 2 ∨ L / 2 = y / 2 ∨ 2 * b ≤ L)
def spKnown : Sp := fun vs H Q _ => ∃ (m lp da : Addr) (b : Nat) (r : Pairs) (n : Int) (vc : V) (ex : List (Key × V)) (x y : Nat), vs = [.ref m, .int (x : Int), .int (y : Int)] ∧ MA m lp da b r n vc ex H ∧ 0 < b ∧ x < 2 * (b + r.length) ∧ y < 2 * (b + r.length) ∧
  ∀ (z : Int) H', Same H H' → (z = -1 ∨ ∃ L : Nat, z = L ∧ LitOk b r.length x y L) → Q (.int z) H'
def spBoth : Sp := fun vs H Q _ => ∃ (m lp da : Addr) (b : Nat) (r : Pairs) (n : Int) (vc : V) (ex : List (Key × V)) (x y : Nat), vs = [.ref m, .int (x : Int), .int (y : Int)] ∧ MA m lp da b r n vc ex H ∧ 0 < b ∧ b ≤ 1000 ∧ r.length ≤ 1000 ∧ x < 2 * (b + r.length) ∧ y < 2 * (b + r.length) ∧
  ∀ (L : Nat) r' H', Fr lp da H H' → MA m lp da b r' n vc ex H' → r.length ≤ r'.length → r'.length ≤ r.length + 1 → LitOk b r'.length x y L → Q (.int (L : Int)) H'
def spSize : Sp := fun vs H Q _ => ∃ (m lp da : Addr) (b : Nat) (r : Pairs) (n : Int) (vc : V) (ex : List (Key × V)), vs = [.ref m] ∧ MA m lp da b r n vc ex H ∧ Q (.int ((b + r.length : Nat) : Int)) H
def spLitr : Sp := fun vs H Q _ => ∃ (c g : Addr) (k : Nat) (m lp da : Addr) (b : Nat) (r : Pairs) (n : Int) (vc : V) (ex : List (Key × V)), vs = [.ref g, .ref m] ∧ Bag c g k H ∧ k ≤ 90000 ∧ MA m lp da b r n vc ex H ∧ 0 < b ∧ b ≤ 1000 ∧ r.length ≤ 1000 ∧
  ∀ (L : Nat) H', L < 2 * (b + r.length) → Kp g H H' → Bag c g (k + 2) H' → MA m lp da b r n vc ex H' → Q (.int (L : Int)) H'
local macro_rules | `(tactic| walk_at "go1") => `(tactic| first
  | (with_reducible refine WDict.g_getS (by walk_at "lk") md2 ?_)
  | (with_reducible refine WDict.g_getS (by walk_at "lk") md3 ?_)
  | (with_reducible refine WDict.g_getS (by walk_at "lk") md4 ?_)
  | (with_reducible refine WDict.g_getS (by walk_at "lk") md5 ?_))
variable {P : Program} {w : World} {K : PySem.W.Frag} {mg : Str → Option Value} {base : Heap} {dA : Nat → Addr}
theorem ok__law_known (T : Txt K mg dA)  {f : Addr} {fd : FuncData} (F : Fun K "_law_known" "_law_known" s__law_known f fd) : FnOk P w K mg base CX0 1 f fd ["made", "x", "y"] spKnown := by
  refine F.ok sc__law_known (fun vs H Q E h => ?_) (fun cdv A outer s H vs Q E hr h => ?_)
  · obtain ⟨m, lp, da, b, r, n, vc, ex, x, y, rfl, _⟩ := h
    rfl
  obtain ⟨m, lp, da, b, r, n, vc, ex, x, y, rfl, hM, hb, hx, hy, q⟩ := h
  refine ⟨_, (pss_cons (ps_set (i := 3) sc__law_known.nd rfl (.inl rfl) (pe_callB (call_min2 rfl) (by rfl) T.b_min (by decide +kernel) (pa_cons (pv 1) (pa_cons (pv 2) pa_nil))))
      (pss_cons (ps_set (i := 4) sc__law_known.nd rfl (.inl rfl) (pe_callB (call_max2 rfl) (by rfl) T.b_max (by decide +kernel) (pa_cons (pv 1) (pa_cons (pv 2) pa_nil))))
      (pss_cons (ps_if (PW.pt (pw_or (pt_cmpR op_eq (pv 3) pe_int (nomark _)) (pw_or1 (pt_cmpR op_eq (pe_op op_xor (pv 3) pe_int) (pv 4) (nomark _))))) (pss_one (ps_ret pe_int)) pss_nil)
      (pss_cons (ps_if (PW.pt (pw_or (pt_cmpR op_eq (pv 3) pe_int (nomark _)) (pw_or1 (pt_cmpR op_eq (pv 3) (pv 4) (nomark _))))) (pss_one (ps_ret (pv 4))) pss_nil)
      (pss_one (ps_ret (pe_dget2 (hu_of hr) (pe_dget (hu_of hr) (pv 0) pe_str (fun _ _ => rfl)) (pe_tup (pa_cons (pv 3) (pa_cons (pv 4) pa_nil))) (pe_un un_neg pe_int) ⟨by rfl, by rfl, by rfl, by rfl⟩))))))), ?_⟩
  rw [show (L2.start ["made", "x", "y", "low", "high"] [.ref m, .int (x : Int), .int (y : Int)] : L2.St) = [some (.ref m), some (.int (x : Int)), some (.int (y : Int)), none, none] from rfl]
  try simp only [WL.cxK]
  have hmd := hM.d
  obtain ⟨kvs, ha, hal, hav⟩ := hM.a
  walk_at "go"
  have hlo : (if (y : Int) < (x : Int) then (y : Int) else (x : Int)) = ((min x y : Nat) : Int) := by split <;> omega
  have hhi : (if (y : Int) > (x : Int) then (y : Int) else (x : Int)) = ((max x y : Nat) : Int) := by split <;> omega
  rw [hlo, hhi]
  have h0 : ∃ L : Nat, (0 : Int) = L ∧ LitOk b r.length x y L := ⟨0, rfl, by omega, .inl (by omega)⟩
  have h1 : ∃ L : Nat, ((max x y : Nat) : Int) = L ∧ LitOk b r.length x y L := ⟨max x y, rfl, by omega, by omega⟩
  refine g_iteI (fun e => ?_) (fun e => ?_)
  · walk_at "go"
    exact q 0 H (fun _ _ h => h) (.inr h0)
  walk_at "go"
  refine g_iteB (fun e => ?_) (fun e => ?_)
  · walk_at "go"
    exact q 0 H (fun _ _ h => h) (.inr h0)
  walk_at "go"
  refine g_iteI (fun e => ?_) (fun e => ?_)
  · walk_at "go"
    exact q _ H (fun _ _ h => h) (.inr h1)
  walk_at "go"
  refine g_iteB (fun e => ?_) (fun e => ?_)
  · walk_at "go"
    exact q _ H (fun _ _ h => h) (.inr h1)
  walk_at "go"
  refine ⟨da, rfl, .inr ⟨kvs, .inl ha⟩, ?_⟩
  walk_at "go"
  refine ⟨sz_le (n := 2) (by decide), fun p np => ?_⟩
  walk_at "go"
  refine ⟨_, DGet.t (k := [.inl ((min x y : Nat) : Int), .inl ((max x y : Nat) : Int)]) (same_new np _ _ ha) upd_same, ?_⟩
  cases e : valV kvs [Sum.inl ((min x y : Nat) : Int), Sum.inl ((max x y : Nat) : Int)] with
  | none => exact q (-1) _ (same_new np) (.inl rfl)
  | some v =>
    obtain ⟨L, rfl, h1, h2⟩ := hav _ _ e
    exact q L _ (same_new np) (.inr ⟨L, rfl, h2, .inr (.inr (.inr h1))⟩)
theorem ok__law_both (T : Txt K mg dA) (c__law_known : C8.Cal P w K mg base 1 "_law_known" spKnown []) {f : Addr} {fd : FuncData} (F : Fun K "_law_both" "_law_both" s__law_both f fd) : FnOk P w K mg base CX0 2 f fd ["made", "x", "y"] spBoth := by
  refine F.ok sc__law_both (fun vs H Q E h => ?_) (fun cdv A outer s H vs Q E hr h => ?_)
  · obtain ⟨m, lp, da, b, r, n, vc, ex, x, y, rfl, _⟩ := h
    rfl
  obtain ⟨m, lp, da, b, r, n, vc, ex, x, y, rfl, hM, hb, hb2, hr2, hx, hy, q⟩ := h
  refine ⟨_, (pss_cons (ps_set (i := 3) sc__law_both.nd rfl (.inl rfl) (C8.pe_c c__law_known hr (by decide) (by rfl) (pa_cons (pv 0) (pa_cons (pv 1) (pa_cons (pv 2) pa_nil)))))
      (pss_cons (ps_if (pt_cmpR op_ge (pv 3) pe_int (nomark _)) (pss_one (ps_ret (pv 3))) pss_nil)
      (pss_cons (ps_set (i := 4) sc__law_both.nd rfl (.inl rfl) (pe_dget (hu_of hr) (pv 0) pe_str (fun _ _ => rfl)))
      (pss_cons (ps_set (i := 5) sc__law_both.nd rfl (.inl rfl) (pe_op op_mul pe_int (pe_op op_add (pe_dget (hu_of hr) (pv 0) pe_str (fun _ _ => rfl)) (pe_callB (kcall_len_seq K) (by rfl) T.b_len (by decide +kernel) (pa_cons (pe_dget (hu_of hr) (pv 0) pe_str (fun _ _ => rfl)) pa_nil)))))
      (pss_cons (ps_dput (hu_of hr) (pv 4) (pe_tup (pa_cons (pe_callB (call_min2 rfl) (by rfl) T.b_min (by decide +kernel) (pa_cons (pv 1) (pa_cons (pv 2) pa_nil))) (pa_cons (pe_callB (call_max2 rfl) (by rfl) T.b_max (by decide +kernel) (pa_cons (pv 1) (pa_cons (pv 2) pa_nil))) pa_nil))) (pv 5) (by rfl))
      (pss_cons (ps_expr (kpe_bm K PySem.F.plainAttrs_list PySem.F.slot_list_append PySem.F.type_list_append mt_append (pe_dget (hu_of hr) (pv 0) pe_str (fun _ _ => rfl)) (pa_cons (pe_tup (pa_cons (pe_callB (call_min2 rfl) (by rfl) T.b_min (by decide +kernel) (pa_cons (pv 1) (pa_cons (pv 2) pa_nil))) (pa_cons (pe_callB (call_max2 rfl) (by rfl) T.b_max (by decide +kernel) (pa_cons (pv 1) (pa_cons (pv 2) pa_nil))) pa_nil))) pa_nil)))
      (pss_one (ps_ret (pv 5))))))))), ?_⟩
  rw [show (L2.start ["made", "x", "y", "known", "at", "literal"] [.ref m, .int (x : Int), .int (y : Int)] : L2.St) = [some (.ref m), some (.int (x : Int)), some (.int (y : Int)), none, none, none] from rfl]
  try simp only [WL.cxK]
  walk_at "go"
  refine ⟨m, lp, da, b, r, n, vc, ex, x, y, rfl, hM, hb, hx, hy, fun z H1 s1 hz => ?_⟩
  have hM1 := hM.same s1
  have hmd := hM1.d
  have hll := hM1.l
  obtain ⟨kvs, ha, hal, hav⟩ := hM1.a
  rcases hz with rfl | ⟨L, rfl, hL⟩
  · walk_at "go"
    rw [show decide ((0 : Int) ≤ -1) = false by decide]
    walk_at "go"
    rw [List.length_map]
    have hlo : (if (y : Int) < (x : Int) then (y : Int) else (x : Int)) = ((min x y : Nat) : Int) := by split <;> omega
    have hhi : (if (y : Int) > (x : Int) then (y : Int) else (x : Int)) = ((max x y : Nat) : Int) := by split <;> omega
    rw [hlo, hhi]
    refine ⟨sz_le (n := 2) (by decide), fun t1 nt1 => ?_⟩
    have s2 := s1.trans (same_new (o := .tup [V.int ((min x y : Nat) : Int), V.int ((max x y : Nat) : Int)]) nt1)
    have hM2 := hM1.same (same_new (o := .tup [V.int ((min x y : Nat) : Int), V.int ((max x y : Nat) : Int)]) nt1)
    have ha2 := same_new nt1 (o := .tup [V.int ((min x y : Nat) : Int), V.int ((max x y : Nat) : Int)]) _ _ ha
    have ht1 : upd H1 t1 (.tup [V.int ((min x y : Nat) : Int), V.int ((max x y : Nat) : Int)]) t1 = some (.tup [V.int ((min x y : Nat) : Int), V.int ((max x y : Nat) : Int)]) := upd_same
    generalize upd H1 t1 (.tup [V.int ((min x y : Nat) : Int), V.int ((max x y : Nat) : Int)]) = H2 at s2 hM2 ha2 ht1 ⊢
    refine ⟨da, _, rfl, DPut.t (k := [.inl ((min x y : Nat) : Int), .inl ((max x y : Nat) : Int)]) ha2 ht1 (sz_lt (by omega)), ?_⟩
    have hmd2 := hM2.d
    have hll2 := hM2.l
    have nmd : m ≠ da := fun e => by rw [e, ha2] at hmd2; cases hmd2
    have nld : lp ≠ da := fun e => by rw [e, ha2] at hll2; cases hll2
    have nml : m ≠ lp := fun e => by rw [e, hll2] at hmd2; cases hmd2
    have hmd3 : upd H2 da (.dT (putK kvs [.inl ((min x y : Nat) : Int), .inl ((max x y : Nat) : Int)] (.int (2 * ((b : Int) + (r.length : Int)))))) m = some (.dK (madeD n b lp da vc ex)) := by rw [upd_ne nmd]; exact hmd2
    have hll3 : upd H2 da (.dT (putK kvs [.inl ((min x y : Nat) : Int), .inl ((max x y : Nat) : Int)] (.int (2 * ((b : Int) + (r.length : Int)))))) lp = some (.lst (r.map fun t => V.ref t.1)) := by rw [upd_ne nld]; exact hll2
    have ha3 : upd H2 da (.dT (putK kvs [.inl ((min x y : Nat) : Int), .inl ((max x y : Nat) : Int)] (.int (2 * ((b : Int) + (r.length : Int)))))) da = some (.dT (putK kvs [.inl ((min x y : Nat) : Int), .inl ((max x y : Nat) : Int)] (.int (2 * ((b : Int) + (r.length : Int)))))) := upd_same
    have k3 : Fr lp da H (upd H2 da (.dT (putK kvs [.inl ((min x y : Nat) : Int), .inl ((max x y : Nat) : Int)] (.int (2 * ((b : Int) + (r.length : Int))))))) := fun u o hu n1 n2 => by rw [upd_ne n2]; exact s2 _ _ hu
    have hp3 : PrAt (upd H2 da (.dT (putK kvs [.inl ((min x y : Nat) : Int), .inl ((max x y : Nat) : Int)] (.int (2 * ((b : Int) + (r.length : Int))))))) r := fun u hu => by
      rw [upd_ne fun e => by have := hM2.p u hu; rw [e, ha2] at this; cases this]
      exact hM2.p u hu
    generalize upd H2 da (.dT (putK kvs [.inl ((min x y : Nat) : Int), .inl ((max x y : Nat) : Int)] (.int (2 * ((b : Int) + (r.length : Int)))))) = H3 at hmd3 hll3 ha3 k3 hp3 ⊢
    walk_at "go"
    rw [hlo, hhi]
    refine ⟨sz_le (n := 2) (by decide), fun t2 nt2 => ?_⟩
    have s4 := same_new (o := .tup [V.int ((min x y : Nat) : Int), V.int ((max x y : Nat) : Int)]) nt2
    have ht2 : upd H3 t2 (.tup [V.int ((min x y : Nat) : Int), V.int ((max x y : Nat) : Int)]) t2 = some (.tup [V.int ((min x y : Nat) : Int), V.int ((max x y : Nat) : Int)]) := upd_same
    generalize upd H3 t2 (.tup [V.int ((min x y : Nat) : Int), V.int ((max x y : Nat) : Int)]) = H4 at s4 ht2 ⊢
    walk_at "go"
    refine g_app (s4 _ _ hll3) (by rw [List.length_map]; exact sz_lt (by omega)) ?_
    walk_at "go"
    have nt2l : t2 ≠ lp := fun e => by rw [e, s4 _ _ hll3] at ht2; cases ht2
    have key : Q (V.int ((2 * (b + r.length) : Nat) : Int)) (upd H4 lp (.lst (r.map (fun t => V.ref t.1) ++ [V.ref t2]))) := by
      refine q (2 * (b + r.length)) (r ++ [(t2, min x y, max x y)]) _ (fun u o hu n1 n2 => by rw [upd_ne n1]; exact s4 _ _ (k3 _ _ hu n1 n2)) ⟨by rw [upd_ne nml]; exact s4 _ _ hmd3, by rw [upd_same, List.map_append]; rfl, fun u hu => ?_, ⟨_, by rw [upd_ne nld.symm]; exact s4 _ _ ha3, ?_, fun k v hv => ?_⟩, ?_⟩ (by simp) (by simp) ⟨by simp, by omega⟩
      · rcases List.mem_append.mp hu with hu | hu
        · have h5 := s4 _ _ (hp3 u hu)
          rw [upd_ne fun e => by rw [e, s4 _ _ hll3] at h5; cases h5]
          exact h5
        · rw [List.mem_singleton.mp hu]
          show upd H4 lp _ t2 = _
          rw [upd_ne nt2l]; exact ht2
      · have := WDict.putK_le kvs [Sum.inl ((min x y : Nat) : Int), Sum.inl ((max x y : Nat) : Int)] (.int (2 * ((b : Int) + (r.length : Int))))
        rw [List.length_append, List.length_singleton]; omega
      · rw [valV_put] at hv
        rw [List.length_append, List.length_singleton]
        by_cases e : k = [Sum.inl ((min x y : Nat) : Int), Sum.inl ((max x y : Nat) : Int)]
        · rw [if_pos e] at hv
          exact ⟨2 * (b + r.length), by rw [← Option.some.inj hv]; congr 1, by omega, by omega⟩
        · rw [if_neg e] at hv
          obtain ⟨L, h1, h2, h3⟩ := hav _ _ hv
          exact ⟨L, h1, h2, by omega⟩
      · rw [List.map_append]
        exact hM.ok.snoc (by rw [List.length_map]; show min x y / 2 < _; omega) (by rw [List.length_map]; show max x y / 2 < _; omega)
    exact key
  · walk_at "go"
    rw [show decide ((0 : Int) ≤ (L : Int)) = true by simp]
    walk_at "go"
    exact q L r H1 (Fr.same s1) hM1 (Nat.le_refl _) (by omega) hL
theorem ok__law_size (T : Txt K mg dA)  {f : Addr} {fd : FuncData} (F : Fun K "_law_size" "_law_size" s__law_size f fd) : FnOk P w K mg base CX0 1 f fd ["made"] spSize := by
  refine F.ok sc__law_size (fun vs H Q E h => ?_) (fun cdv A outer s H vs Q E hr h => ?_)
  · obtain ⟨m, lp, da, b, r, n, vc, ex, rfl, _⟩ := h
    rfl
  obtain ⟨m, lp, da, b, r, n, vc, ex, rfl, hM, q⟩ := h
  refine ⟨_, (pss_one (ps_ret (pe_op op_add (pe_dget (hu_of hr) (pv 0) pe_str (fun _ _ => rfl)) (pe_callB (kcall_len_seq K) (by rfl) T.b_len (by decide +kernel) (pa_cons (pe_dget (hu_of hr) (pv 0) pe_str (fun _ _ => rfl)) pa_nil))))), ?_⟩
  rw [show (L2.start ["made"] [.ref m] : L2.St) = [some (.ref m)] from rfl]
  try simp only [WL.cxK]
  have hmd := hM.d
  have hl := hM.l
  walk_at "go"
  rw [List.length_map]
  exact q
theorem ok__law_literal (T : Txt K mg dA) (c__law_draw : C8.Cal P w K mg base 1 "_law_draw" spDraw []) (c__law_size : C8.Cal P w K mg base 1 "_law_size" spSize []) {f : Addr} {fd : FuncData} (F : Fun K "_law_literal" "_law_literal" s__law_literal f fd) : FnOk P w K mg base CX0 2 f fd ["bag", "made"] spLitr := by
  refine F.ok sc__law_literal (fun vs H Q E h => ?_) (fun cdv A outer s H vs Q E hr h => ?_)
  · obtain ⟨c, g, k, m, lp, da, b, r, n, vc, ex, rfl, _⟩ := h
    rfl
  obtain ⟨c, g, k, m, lp, da, b, r, n, vc, ex, rfl, hB, hk, hM, hb, hb2, hr2, q⟩ := h
  refine ⟨_, (pss_cons (ps_set (i := 2) sc__law_literal.nd rfl (.inl rfl) (pe_op op_mul pe_int (C8.pe_c c__law_size hr (by decide) (by rfl) (pa_cons (pv 1) pa_nil))))
      (pss_cons (ps_if (pt_cmpR op_eq (C8.pe_c c__law_draw hr (by decide) (by rfl) (pa_cons (pv 0) (pa_cons pe_int pa_nil))) pe_int (nomark _)) (pss_one (ps_ret (pe_op op_sub (pe_op op_sub (pv 2) pe_int) (C8.pe_c c__law_draw hr (by decide) (by rfl) (pa_cons (pv 0) (pa_cons (pe_callB (call_min2 rfl) (by rfl) T.b_min (by decide +kernel) (pa_cons pe_int (pa_cons (pv 2) pa_nil))) pa_nil)))))) pss_nil)
      (pss_one (ps_ret (C8.pe_c c__law_draw hr (by decide) (by rfl) (pa_cons (pv 0) (pa_cons (pv 2) pa_nil))))))), ?_⟩
  rw [show (L2.start ["bag", "made", "size"] [.ref g, .ref m] : L2.St) = [some (.ref g), some (.ref m), none] from rfl]
  try simp only [WL.cxK]
  walk_at "go"
  refine ⟨m, lp, da, b, r, n, vc, ex, rfl, hM, ?_⟩
  walk_at "go"
  refine g_draw hB (by omega) (by decide) (by decide) fun d H1 hd k1 B1 => ?_
  have hM1 := hM.kp k1 hB
  have hS : 2 * ((b + r.length : Nat) : Int) = ((2 * (b + r.length) : Nat) : Int) := by omega
  rw [hS]
  generalize hN : 2 * (b + r.length) = N at q
  walk_at "go"
  refine g_iteI (fun e => ?_) (fun e => ?_)
  · walk_at "go"
    have h8 : (if (N : Int) < 8 then (N : Int) else 8) = ((min 8 N : Nat) : Int) := by split <;> omega
    rw [h8]
    refine g_draw B1 (by omega) (by omega) (by omega) fun d2 H2 hd2 k2 B2 => ?_
    walk_at "go"
    rw [show (N : Int) - 1 - (d2 : Int) = ((N - 1 - d2 : Nat) : Int) by omega]
    exact q _ H2 (by omega) (k1.trans k2) B2 (hM1.kp k2 B1)
  · walk_at "go"
    refine g_draw B1 (by omega) (by omega) (by omega) fun d2 H2 hd2 k2 B2 => ?_
    exact q _ H2 (by omega) (k1.trans k2) B2 (hM1.kp k2 B1)
end K22
set_option Elab.async false
set_option linter.all false
set_option maxRecDepth 100000
set_option maxHeartbeats 4000000
namespace K22
open PySem PySem.Spec PyProof.Rows L2 WL
local macro_rules | `(tactic| walk_at "lk") => `(tactic| first
  | apply upd_same
  | assumption
  | (rw [upd_ne (by assumption)]; first | exact upd_same | assumption | (rw [upd_ne (by assumption)]; first | exact upd_same | assumption | (rw [upd_ne (by assumption)]; first | exact upd_same | assumption))))
local macro_rules | `(tactic| walk_at "go1") => `(tactic| first
  | (with_reducible refine g_seq ?_)
  | (with_reducible refine g_asg ?_)
  | (with_reducible refine g_name ?_)
  | (with_reducible refine g_sub ?_)
  | ((with_reducible refine' g_var ?gv ?_); (case gv => apply Eq.refl))
  | (with_reducible refine g_c ?_)
  | (with_reducible refine g_op ?_)
  | (with_reducible refine g_un ?_)
  | (with_reducible refine g_I0 ?_)
  | ((with_reducible refine g_I ?gc ?_); (case gc => first | assumption | decide | (show (0 : Int) < _; omega) | refine Or.inr ⟨by omega, by omega⟩ | refine Or.inl ⟨by omega, by omega⟩ | refine ⟨by omega, by omega⟩))
  | (with_reducible refine iteT ?_)
  | (with_reducible refine iteF ?_)
  | (with_reducible refine iteNT ?_)
  | (with_reducible refine iteNF ?_)
  | (with_reducible refine g_andV ?_)
  | (with_reducible refine g_orV ?_)
  | ((with_reducible refine' g_lenS (by assumption) ?_))
  | ((with_reducible refine' g_lenS (SqL.of (by walk_at "lk")) ?_))
  | (with_reducible refine g_U ?_)
  | ((with_reducible refine' g_eq ?gs ?_); (case gs => rfl))
  | ((with_reducible refine g_ne ?gs ?_); (case gs => rfl))
  | (with_reducible refine g_drop ?_)
  | (with_reducible refine g_ret ?_)
  | (with_reducible refine g_next ?_)
  | (with_reducible refine g_ifS ?_)
  | (with_reducible refine g_ifE ?_)
  | (with_reducible refine g_test ?_)
  | (with_reducible refine g_tb ?_)
  | (with_reducible refine g_bl ?_)
  | (with_reducible refine g_not ?_)
  | (with_reducible refine g_and ?_)
  | (with_reducible refine g_or ?_)
  | (with_reducible refine g_nil ?_)
  | (with_reducible refine g_cons ?_)
  | (with_reducible refine g_cb ?_)
  | (with_reducible refine g_call ?_)
  | (with_reducible refine g_int ?_)
  | (with_reducible refine g_two ?_)
  | ((with_reducible refine g_lenStr ?gz ?_); (case gz => first | assumption | exact sz_le (by omega)))
  | (with_reducible refine g_m1 ?_)
  | (with_reducible refine g_isS ?_)
  | (with_reducible refine g_nn ?_)
  | (with_reducible refine g_yes ?_)
  | (with_reducible refine g_for ?_)
  | (with_reducible refine g_ckw ?_)
  | (with_reducible refine g_chain ?_)
  | (with_reducible refine g_gcons ?_)
  | (with_reducible refine g_gnil ?_)
  | (with_reducible refine g_notV ?_)
  | (with_reducible refine g_iZip ?_)
  | (with_reducible refine g_lc ?_)
  | (with_reducible refine g_lc2 ?_)
  | (with_reducible refine g_iList ?_)
  | (with_reducible refine g_iRng1 ?_)
  | (with_reducible refine g_iRng2 ?_)
  | (with_reducible refine g_sl ?_)
  | (with_reducible refine g_noPart ?_)
  | (with_reducible refine g_part ?_)
  | (with_reducible refine g_ex1 ?_)
  | (with_reducible refine g_bm ?_)
  | ((with_reducible refine' g_tyL (by walk_at "lk") ?_))
  | ((with_reducible refine' g_aug ?gv ?_); (case gv => exact rfl))
  | (with_reducible refine g_ipI ?_)
  | (with_reducible refine g_turn ?_)
  | (with_reducible refine g_brk ?_)
  | (with_reducible refine g_cont ?_)
  | (with_reducible refine g_sign ?_)
  | (with_reducible refine g_lst ?_)
  | (with_reducible refine g_tup ?_)
  | ((with_reducible refine' g_ixL (by assumption) ?ga ?_); (case ga => assumption))
  | ((with_reducible refine' g_ixL (SqL.of (by walk_at "lk")) ?ga ?_); (case ga => first | exact rfl | assumption))
  | ((with_reducible refine' g_ixT (SqT.of (by walk_at "lk")) ?ga ?_); (case ga => first | exact rfl | assumption))
  | ((with_reducible refine' g_lenT (SqT.of (by walk_at "lk")) ?_))
  | ((with_reducible refine' g_isiS (b := true) ?ga ?_); (case ga => decide +kernel))
  | ((with_reducible refine' g_isiS (b := false) ?ga ?_); (case ga => decide +kernel))
  | ((with_reducible refine' g_isiI (b := true) ?ga ?_); (case ga => decide +kernel))
  | ((with_reducible refine' g_isiI (b := false) ?ga ?_); (case ga => decide +kernel))
  | ((with_reducible refine' g_setL2 ?ga ?gb ?_); (case ga => exact rfl); (case gb => exact rfl))
  | ((with_reducible refine' g_setL (by walk_at "lk") ?ga ?gb ?_); (case ga => exact rfl); (case gb => exact rfl)))
local macro_rules | `(tactic| walk_at "go") => `(tactic| ((repeat walk_at "go1"); try dsimp only [List.set, List.cons_append, List.nil_append]))
local macro_rules | `(tactic| walk_at "go1") => `(tactic| first
  | (with_reducible refine WOwn.g_fl ?_)
  | (with_reducible refine WOwn.g_sfl ?_)
  | (with_reducible refine WOwn.g_make ?_)
  | (with_reducible refine WOwn.g_meth ?_)
  | (with_reducible refine WOwn.g_sm ?_)
  | (with_reducible refine WOwn.g_cv ?_))
local macro_rules | `(tactic| walk_at "go1") => `(tactic| first
  | (with_reducible refine WDict.g_dget ?_)
  | (with_reducible refine WDict.g_din ?_)
  | (with_reducible refine WDict.g_dnotin ?_)
  | (with_reducible refine WDict.g_dput ?_)
  | (with_reducible refine WDict.g_dnew ?_)
  | (with_reducible refine WDict.g_dget2 ?_)
  | (with_reducible refine WDict.g_dsetd ?_)
  | (with_reducible refine WDict.g_disp ?_)
  | (with_reducible refine WDict.g_pair ?_)
  | (with_reducible refine WDict.g_pair0 ?_)
  | (with_reducible refine WDict.g_tru ?_))
local macro_rules | `(tactic| walk_at "go1") => `(tactic| first
  | (with_reducible refine g_iEnum ?_)
  | (with_reducible refine g_iTup ?_)
  | (with_reducible refine g_bm0 ?_)
  | ((with_reducible refine' g_gTup (SqT.of (by walk_at "lk")) ?gn ?_); (case gn => exact rfl)))
local macro_rules | `(tactic| walk_at "go1") => `(tactic| first
  | (with_reducible refine WDict.g_getS (by walk_at "lk") bd1 ?_)
  | (with_reducible refine WDict.g_getS (by walk_at "lk") bd2 ?_)
  | (with_reducible refine WDict.g_getS (by walk_at "lk") bd3 ?_)
  | (with_reducible refine WDict.g_getS (by walk_at "lk") bd4 ?_)
  | (with_reducible refine WDict.g_getS (by walk_at "lk") bd5 ?_)
  | (with_reducible refine WDict.g_getS (by walk_at "lk") bd6 ?_))
local macro_rules | `(tactic| walk_at "go1") => `(tactic| first
  | (with_reducible refine WDict.g_getS (by walk_at "lk") md2 ?_)
  | (with_reducible refine WDict.g_getS (by walk_at "lk") md3 ?_)
  | (with_reducible refine WDict.g_getS (by walk_at "lk") md4 ?_)
  | (with_reducible refine WDict.g_getS (by walk_at "lk") md5 ?_))
theorem xor_half (x : Nat) {d : Nat} (h : d < 2) : (x ^^^ d) / 2 = x / 2 := by
  rw [Nat.xor_div_two, show d / 2 = 0 by omega, Nat.xor_zero]
theorem xor_nat (x d : Nat) : Builtin.bitXor (x : Int) (d : Int) = ((x ^^^ d : Nat) : Int) := by
  rw [Bits.bitXor_pp (Int.natCast_nonneg _) (Int.natCast_nonneg _), Int.toNat_natCast, Int.toNat_natCast]
theorem xor_one (x : Nat) : Builtin.bitXor (x : Int) 1 = ((x ^^^ 1 : Nat) : Int) := xor_nat x 1
theorem half_lt {x n : Nat} (h : x / 2 < n) : x < 2 * n := by omega
/-- all but three stays -/
def Fr3 (g a c : Addr) (H H' : Hp) : Prop := ∀ x o, H x = some o → x ≠ g → x ≠ a → x ≠ c → H' x = some o
theorem Fr3.refl {g a c : Addr} (H : Hp) : Fr3 g a c H H := fun _ _ h _ _ _ => h
theorem Fr3.same {g a c : Addr} {H H' : Hp} (s : Same H H') : Fr3 g a c H H' := fun _ _ h _ _ _ => s _ _ h
theorem Fr3.kp {g a c : Addr} {H H' : Hp} (s : Kp g H H') : Fr3 g a c H H' := fun _ _ h n _ _ => s _ _ h n
theorem Fr3.fr {g a c : Addr} {H H' : Hp} (s : Fr a c H H') : Fr3 g a c H H' := fun _ _ h _ n1 n2 => s _ _ h n1 n2
theorem Fr3.trans {g a c : Addr} {H H1 H2 : Hp} (p : Fr3 g a c H H1) (q : Fr3 g a c H1 H2) : Fr3 g a c H H2 := fun x o h n0 n1 n2 => q x o (p x o h n0 n1 n2) n0 n1 n2
theorem Fr3.mut {g a c p : Addr} {H H1 : Hp} {o : HO} (k : Fr3 g a c H H1) (hp : H p = none) : Fr3 g a c H (upd H1 p o) := fun x u h n0 n1 n2 => by rw [upd_ne (ne_of_none h hp)]; exact k x u h n0 n1 n2
theorem Bag.fr {c g m lp da : Addr} {k b : Nat} {r : Pairs} {n : Int} {vc : V} {ex : List (Key × V)} {H H' : Hp} (h : Bag c g k H) (s : Fr lp da H H') (hM : MA m lp da b r n vc ex H) (nc : c ≠ lp) : Bag c g k H' := by
  obtain ⟨cells, x1, x2, x3, x4, x5, hb, hc, h1⟩ := h
  obtain ⟨kvs, ha, _⟩ := hM.a
  have hl := hM.l
  have n1 : g ≠ lp := fun e => by rw [e, hl] at hb; cases hb
  have n2 : g ≠ da := fun e => by rw [e, ha] at hb; cases hb
  have n3 : c ≠ da := fun e => by rw [e, ha] at hc; cases hc
  exact ⟨cells, x1, x2, x3, x4, x5, s _ _ hb n1 n2, s _ _ hc nc n3, h1⟩
/-- the literals of the chain -/
def ChOk (b k : Nat) (cs : List Nat) : Prop := ∀ j x, cs[j]? = some x → x / 2 < b + k ∧ (x / 2 ≤ j + 1 ∨ b ≤ x / 2)
theorem ChOk.mono {b k k' : Nat} {cs : List Nat} (h : ChOk b k cs) (hk : k ≤ k') : ChOk b k' cs := fun j x hx => ⟨by have := (h j x hx).1; omega, (h j x hx).2⟩
theorem ChOk.snoc {b k y : Nat} {cs : List Nat} (h : ChOk b k cs) (h1 : y / 2 < b + k) (h2 : y / 2 ≤ cs.length + 1 ∨ b ≤ y / 2) : ChOk b k (cs ++ [y]) := fun j x hx => by
  by_cases hl : j < cs.length
  · rw [List.getElem?_append_left hl] at hx
    exact h j x hx
  · have hj := (List.getElem?_eq_some_iff.mp hx).1
    simp at hj
    have : j = cs.length := by omega
    subst this
    rw [List.getElem?_append_right (Nat.le_refl _), Nat.sub_self] at hx
    have : y = x := by simpa using hx
    subst this
    exact ⟨h1, h2⟩
def spChain : Sp := fun vs H Q _ => ∃ (c g : Addr) (k : Nat) (m lp da : Addr) (b : Nat) (r : Pairs) (n : Int) (vc : V) (ex : List (Key × V)), vs = [.ref g, .ref m] ∧ Bag c g k H ∧ k ≤ 1000 ∧ MA m lp da b r n vc ex H ∧ c ≠ lp ∧ 2 ≤ b ∧ b ≤ 100 ∧ r.length ≤ 100 ∧
  ∀ (q : Addr) (cs : List Nat) (r' : Pairs) (k' : Nat) H', Fr3 g lp da H H' → Bag c g k' H' → k' ≤ k + 300 → MA m lp da b r' n vc ex H' → r'.length ≤ r.length + 300 → H q = none → H' q = some (.lst (nv cs)) → cs.length = b - 1 → ChOk b r'.length cs → Q (.ref q) H'
/-- where the chain's loop stands -/
structure CS (c g m lp da l : Addr) (b : Nat) (r : Pairs) (n : Int) (vc : V) (ex : List (Key × V)) (k : Nat) (cs : List Nat) (H0 H : Hp) : Prop where
  f : Fr3 g lp da H0 H
  B : Bag c g k H
  M : MA m lp da b r n vc ex H
  hl : H l = some (.lst (nv cs))
  nc : c ≠ lp
  n1 : l ≠ g
  n2 : l ≠ lp
  n3 : l ≠ da
section
variable {c g m lp da l : Addr} {b : Nat} {r r' : Pairs} {n : Int} {vc : V} {ex : List (Key × V)} {k : Nat} {cs : List Nat} {H0 H H' : Hp}
theorem CS.draw (s : CS c g m lp da l b r n vc ex k cs H0 H) (kp : Kp g H H') (B' : Bag c g (k + 1) H') : CS c g m lp da l b r n vc ex (k + 1) cs H0 H' :=
  ⟨s.f.trans (Fr3.kp kp), B', s.M.kp kp s.B, kp _ _ s.hl s.n1, s.nc, s.n1, s.n2, s.n3⟩
theorem CS.both (s : CS c g m lp da l b r n vc ex k cs H0 H) (f : Fr lp da H H') (M' : MA m lp da b r' n vc ex H') : CS c g m lp da l b r' n vc ex k cs H0 H' :=
  ⟨s.f.trans (Fr3.fr f), s.B.fr f s.M s.nc, M', f _ _ s.hl s.n2 s.n3, s.nc, s.n1, s.n2, s.n3⟩
end
variable {P : Program} {w : World} {K : PySem.W.Frag} {mg : Str → Option Value} {base : Heap} {dA : Nat → Addr}
theorem ok__law_chain (T : Txt K mg dA) (c__law_draw : C8.Cal P w K mg base 1 "_law_draw" spDraw []) (c__law_both : C8.Cal P w K mg base 2 "_law_both" spBoth []) {f : Addr} {fd : FuncData} (F : Fun K "_law_chain" "_law_chain" s__law_chain f fd) : FnOk P w K mg base CX0 3 f fd ["bag", "made"] spChain := by
  refine F.ok sc__law_chain (fun vs H Q E h => ?_) (fun cdv A outer s H vs Q E hr h => ?_)
  · obtain ⟨c, g, k, m, lp, da, b, r, n, vc, ex, rfl, _⟩ := h
    rfl
  obtain ⟨c, g, k, m, lp, da, b, r, n, vc, ex, rfl, hB, hk, hM, hnc, hb, hb2, hr2, q⟩ := h
  refine ⟨_, (pss_cons (ps_set (i := 2) sc__law_chain.nd rfl (.inl rfl) (pe_lst (pa_cons pe_int pa_nil)))
      (pss_cons (ps_for PassesOwn.never rfl (pi_range2 (by rfl) T.b_range (pa_cons pe_int (pa_cons (pe_dget (hu_of hr) (pv 1) pe_str (fun _ _ => rfl)) pa_nil))) (pg_name (i := 3) sc__law_chain.nd rfl (.inl rfl)) (pss_cons (ps_set (i := 4) sc__law_chain.nd rfl (.inl rfl) (pe_op op_xor (pe_ix (kix_list K) (pv 2) (pe_un un_neg pe_int) (fun _ _ => rfl)) (C8.pe_c c__law_draw hr (by decide) (by rfl) (pa_cons (pv 0) (pa_cons pe_int pa_nil)))))
      (pss_cons (ps_set (i := 5) sc__law_chain.nd rfl (.inl rfl) (pe_op op_add (pe_op op_mul pe_int (pv 3)) (C8.pe_c c__law_draw hr (by decide) (by rfl) (pa_cons (pv 0) (pa_cons pe_int pa_nil)))))
      (pss_one (ps_if (pt_cmpR op_eq (C8.pe_c c__law_draw hr (by decide) (by rfl) (pa_cons (pv 0) (pa_cons pe_int pa_nil))) pe_int (nomark _)) (pss_cons (ps_set (i := 6) sc__law_chain.nd rfl (.inl rfl) (C8.pe_c c__law_both hr (by decide) (by rfl) (pa_cons (pv 1) (pa_cons (pv 4) (pa_cons (pe_op op_xor (pv 5) pe_int) pa_nil)))))
      (pss_cons (ps_set (i := 7) sc__law_chain.nd rfl (.inl rfl) (C8.pe_c c__law_both hr (by decide) (by rfl) (pa_cons (pv 1) (pa_cons (pe_op op_xor (pv 4) pe_int) (pa_cons (pv 5) pa_nil)))))
      (pss_one (ps_expr (kpe_bm K PySem.F.plainAttrs_list PySem.F.slot_list_append PySem.F.type_list_append mt_append (pv 2) (pa_cons (C8.pe_c c__law_both hr (by decide) (by rfl) (pa_cons (pv 1) (pa_cons (pe_op op_xor (pv 6) pe_int) (pa_cons (pe_op op_xor (pv 7) pe_int) pa_nil)))) pa_nil)))))) (pss_one (ps_expr (kpe_bm K PySem.F.plainAttrs_list PySem.F.slot_list_append PySem.F.type_list_append mt_append (pv 2) (pa_cons (C8.pe_c c__law_both hr (by decide) (by rfl) (pa_cons (pv 1) (pa_cons (pv 4) (pa_cons (pv 5) pa_nil)))) pa_nil)))))))))
      (pss_one (ps_ret (pv 2))))), ?_⟩
  rw [show (L2.start ["bag", "made", "chain", "node", "x", "y", "one", "two"] [.ref g, .ref m] : L2.St) = [some (.ref g), some (.ref m), none, none, none, none, none, none] from rfl]
  try simp only [WL.cxK]
  walk_at "go"
  refine ⟨sz_le (n := 1) (by decide), fun l nl => ?_⟩
  have s1 := same_new (o := .lst [V.int 2]) nl
  have hB1 := hB.same s1
  have hM1 := hM.same s1
  have hl1 : upd H l (.lst [V.int 2]) l = some (.lst (nv [2])) := upd_same
  generalize upd H l (.lst [V.int 2]) = H1 at s1 hB1 hM1 hl1 ⊢
  have hmd := hM1.d
  have nlg : l ≠ g := by obtain ⟨_, _, _, _, _, _, h, _⟩ := hB; exact (ne_of_none h nl).symm
  have nlp : l ≠ lp := (ne_of_none hM.l nl).symm
  have nld : l ≠ da := by obtain ⟨_, h, _⟩ := hM.a; exact (ne_of_none h nl).symm
  walk_at "go"
  refine f_rng2 (by omega) (fun i σ' H' => ∃ (k' : Nat) (r' : Pairs) (cs : List Nat) (y1 y2 y3 y4 y5 : Option V), σ' = [some (.ref g), some (.ref m), some (.ref l), y1, y2, y3, y4, y5] ∧ CS c g m lp da l b r' n vc ex k' cs H H' ∧ k' ≤ k + 3 * i ∧ r'.length ≤ r.length + 3 * i ∧ cs.length = i + 1 ∧ ChOk b r'.length cs)
    ⟨k, r, [2], _, _, _, _, _, rfl, ⟨Fr3.same s1, hB1, hM1, hl1, hnc, nlg, nlp, nld⟩, by omega, by omega, rfl, fun j x hx => by
      cases j with
      | zero =>
        have : 2 = x := by simpa using hx
        subst this
        exact ⟨by omega, .inl (by omega)⟩
      | succ j => simp at hx⟩ (fun i σ' H' hi hP => ?_) (fun σ' H' hP => ?_)
  · obtain ⟨k', r', cs, y1, y2, y3, y4, y5, rfl, S1, hk1, hr1, hcl, hch⟩ := hP
    rw [show (2 : Int) + (i : Int) = ((i + 2 : Nat) : Int) by omega]
    obtain ⟨c0, x, rfl⟩ : ∃ c0 x, cs = c0 ++ [x] := by
      rcases List.eq_nil_or_concat cs with h | ⟨c0, x, h⟩
      · rw [h] at hcl; cases hcl
      · exact ⟨c0, x, by rw [h, List.concat_eq_append]⟩
    have hc0 : c0.length = i := by simp at hcl; omega
    have hx := hch i x (by rw [List.getElem?_append_right (by omega), hc0, Nat.sub_self]; rfl)
    have hll := S1.hl
    walk_at "go"
    refine g_ixL (SqL.of hll) (v := .int (x : Int)) (by rw [nv_app_one]; exact atI_last _ _) ?_
    walk_at "go"
    refine g_draw S1.B (by omega) (by decide) (by decide) fun d1 H2 hd1 kp2 B2 => ?_
    have S2 := S1.draw kp2 B2
    have hmd2 := S2.M.d
    walk_at "go"
    rw [xor_nat]
    have hx2 := xor_half x (show d1 < 2 by omega)
    generalize x ^^^ d1 = x' at hx2 ⊢
    walk_at "go"
    refine g_draw S2.B (by omega) (by decide) (by decide) fun d2 H3 hd2 kp3 B3 => ?_
    have S3 := S2.draw kp3 B3
    walk_at "go"
    rw [show (2 : Int) * ((i + 2 : Nat) : Int) + (d2 : Int) = ((2 * (i + 2) + d2 : Nat) : Int) by omega]
    have hy2 : (2 * (i + 2) + d2) / 2 = i + 2 := by omega
    generalize 2 * (i + 2) + d2 = y' at hy2 ⊢
    walk_at "go"
    refine g_draw S3.B (by omega) (by decide) (by decide) fun d3 H4 hd3 kp4 B4 => ?_
    have S4 := S3.draw kp4 B4
    walk_at "go"
    have fin : ∀ (r2 : Pairs) (L : Nat) (z1 z2 z3 z4 z5 : Option V) (H5 : Hp), CS c g m lp da l b r2 n vc ex (k' + 1 + 1 + 1) (c0 ++ [x]) H H5 → r'.length ≤ r2.length → r2.length ≤ r'.length + 3 → L / 2 < b + r2.length → (L / 2 ≤ i + 2 ∨ b ≤ L / 2) →
        ∃ (k' : Nat) (r' : Pairs) (cs : List Nat) (y1 y2 y3 y4 y5 : Option V), ([some (.ref g), some (.ref m), some (.ref l), z1, z2, z3, z4, z5] : L2.St) = [some (.ref g), some (.ref m), some (.ref l), y1, y2, y3, y4, y5] ∧ CS c g m lp da l b r' n vc ex k' cs H (upd H5 l (.lst (nv (c0 ++ [x]) ++ [V.int (L : Int)]))) ∧ k' ≤ k + 3 * (i + 1) ∧ r'.length ≤ r.length + 3 * (i + 1) ∧ cs.length = i + 1 + 1 ∧ ChOk b r'.length cs :=
      fun r2 L z1 z2 z3 z4 z5 H5 S5 h1 h2 h3 h4 => by
        refine ⟨_, r2, c0 ++ [x] ++ [L], z1, z2, z3, z4, z5, rfl, ⟨S5.f.mut nl, S5.B.put nlg fun e => ?_, ⟨?_, ?_, ?_, ?_, S5.M.ok⟩, by rw [upd_same, nv_app_one (c0 ++ [x])], hnc, nlg, nlp, nld⟩, by omega, by omega, by simp; omega, (hch.mono h1).snoc h3 (by simp; omega)⟩
        · obtain ⟨_, _, _, _, _, _, _, h, _⟩ := hB
          rw [e, h] at nl; cases nl
        · rw [upd_ne (ne_of_none hM.d nl)]; exact S5.M.d
        · rw [upd_ne nlp.symm]; exact S5.M.l
        · exact fun t ht => by
            have := S5.M.p t ht
            rw [upd_ne fun e => by rw [e, S5.hl] at this; cases this]
            exact this
        · obtain ⟨kvs, h, h'⟩ := S5.M.a
          exact ⟨kvs, by rw [upd_ne nld.symm]; exact h, h'⟩
    refine g_iteI (fun e => ?_) (fun e => ?_)
    · walk_at "go"
      rw [xor_one]
      have hy3 := xor_half y' (show 1 < 2 by omega)
      generalize y' ^^^ 1 = y1' at hy3 ⊢
      refine ⟨m, lp, da, b, r', n, vc, ex, x', y1', rfl, S4.M, by omega, by omega, by omega, by omega, by omega, fun L1 r1 H5 f5 M5 h1 h2 h3 => ?_⟩
      have S5 := S4.both f5 M5
      walk_at "go"
      walk_at "go"
      rw [xor_one]
      have hx3 := xor_half x' (show 1 < 2 by omega)
      generalize x' ^^^ 1 = x1' at hx3 ⊢
      refine ⟨m, lp, da, b, r1, n, vc, ex, x1', y', rfl, S5.M, by omega, by omega, by omega, by omega, by omega, fun L2 r2 H6 f6 M6 h4 h5 h6 => ?_⟩
      have S6 := S5.both f6 M6
      have hl6 := S6.hl
      walk_at "go"
      walk_at "go"
      rw [xor_one, xor_one]
      have hL1 := xor_half L1 (show 1 < 2 by omega)
      have hL2 := xor_half L2 (show 1 < 2 by omega)
      generalize L1 ^^^ 1 = L1' at hL1 ⊢
      generalize L2 ^^^ 1 = L2' at hL2 ⊢
      obtain ⟨h3a, h3b⟩ := h3
      obtain ⟨h6a, h6b⟩ := h6
      refine ⟨m, lp, da, b, r2, n, vc, ex, L1', L2', rfl, S6.M, by omega, by omega, by omega, by omega, by omega, fun L3 r3 H7 f7 M7 h7 h8 h9 => ?_⟩
      have S7 := S6.both f7 M7
      walk_at "go"
      refine g_app S7.hl (by rw [nv_len]; exact sz_lt (by simp; omega)) ?_
      walk_at "go"
      obtain ⟨h9a, h9b⟩ := h9
      exact fin r3 L3 _ _ _ _ _ H7 S7 (by omega) (by omega) (by omega) (by omega)
    · have hl4 := S4.hl
      walk_at "go"
      refine ⟨m, lp, da, b, r', n, vc, ex, x', y', rfl, S4.M, by omega, by omega, by omega, by omega, by omega, fun L3 r3 H7 f7 M7 h7 h8 h9 => ?_⟩
      have S7 := S4.both f7 M7
      walk_at "go"
      refine g_app S7.hl (by rw [nv_len]; exact sz_lt (by simp; omega)) ?_
      walk_at "go"
      obtain ⟨h9a, h9b⟩ := h9
      exact fin r3 L3 _ _ _ _ _ H7 S7 (by omega) (by omega) (by omega) (by omega)
  · obtain ⟨k', r', cs, y1, y2, y3, y4, y5, rfl, S1, hk1, hr1, hcl, hch⟩ := hP
    walk_at "go"
    exact q l cs r' k' H' S1.f S1.B (by omega) S1.M (by omega) nl S1.hl (by omega) hch
end K22
set_option Elab.async false
set_option linter.all false
set_option maxRecDepth 100000
set_option maxHeartbeats 4000000
namespace K22
open PySem PySem.Spec PyProof.Rows L2 WL
local macro_rules | `(tactic| walk_at "lk") => `(tactic| first
  | apply upd_same
  | assumption
  | (rw [upd_ne (by assumption)]; first | exact upd_same | assumption | (rw [upd_ne (by assumption)]; first | exact upd_same | assumption | (rw [upd_ne (by assumption)]; first | exact upd_same | assumption))))
local macro_rules | `(tactic| walk_at "go1") => `(tactic| first
  | (with_reducible refine g_seq ?_)
  | (with_reducible refine g_asg ?_)
  | (with_reducible refine g_name ?_)
  | (with_reducible refine g_sub ?_)
  | ((with_reducible refine' g_var ?gv ?_); (case gv => apply Eq.refl))
  | (with_reducible refine g_c ?_)
  | (with_reducible refine g_op ?_)
  | (with_reducible refine g_un ?_)
  | (with_reducible refine g_I0 ?_)
  | ((with_reducible refine g_I ?gc ?_); (case gc => first | assumption | decide | (show (0 : Int) < _; omega) | refine Or.inr ⟨by omega, by omega⟩ | refine Or.inl ⟨by omega, by omega⟩ | refine ⟨by omega, by omega⟩))
  | (with_reducible refine iteT ?_)
  | (with_reducible refine iteF ?_)
  | (with_reducible refine iteNT ?_)
  | (with_reducible refine iteNF ?_)
  | (with_reducible refine g_andV ?_)
  | (with_reducible refine g_orV ?_)
  | ((with_reducible refine' g_lenS (by assumption) ?_))
  | ((with_reducible refine' g_lenS (SqL.of (by walk_at "lk")) ?_))
  | (with_reducible refine g_U ?_)
  | ((with_reducible refine' g_eq ?gs ?_); (case gs => rfl))
  | ((with_reducible refine g_ne ?gs ?_); (case gs => rfl))
  | (with_reducible refine g_drop ?_)
  | (with_reducible refine g_ret ?_)
  | (with_reducible refine g_next ?_)
  | (with_reducible refine g_ifS ?_)
  | (with_reducible refine g_ifE ?_)
  | (with_reducible refine g_test ?_)
  | (with_reducible refine g_tb ?_)
  | (with_reducible refine g_bl ?_)
  | (with_reducible refine g_not ?_)
  | (with_reducible refine g_and ?_)
  | (with_reducible refine g_or ?_)
  | (with_reducible refine g_nil ?_)
  | (with_reducible refine g_cons ?_)
  | (with_reducible refine g_cb ?_)
  | (with_reducible refine g_call ?_)
  | (with_reducible refine g_int ?_)
  | (with_reducible refine g_two ?_)
  | ((with_reducible refine g_lenStr ?gz ?_); (case gz => first | assumption | exact sz_le (by omega)))
  | (with_reducible refine g_m1 ?_)
  | (with_reducible refine g_isS ?_)
  | (with_reducible refine g_nn ?_)
  | (with_reducible refine g_yes ?_)
  | (with_reducible refine g_for ?_)
  | (with_reducible refine g_ckw ?_)
  | (with_reducible refine g_chain ?_)
  | (with_reducible refine g_gcons ?_)
  | (with_reducible refine g_gnil ?_)
  | (with_reducible refine g_notV ?_)
  | (with_reducible refine g_iZip ?_)
  | (with_reducible refine g_lc ?_)
  | (with_reducible refine g_lc2 ?_)
  | (with_reducible refine g_iList ?_)
  | (with_reducible refine g_iRng1 ?_)
  | (with_reducible refine g_iRng2 ?_)
  | (with_reducible refine g_sl ?_)
  | (with_reducible refine g_noPart ?_)
  | (with_reducible refine g_part ?_)
  | (with_reducible refine g_ex1 ?_)
  | (with_reducible refine g_bm ?_)
  | ((with_reducible refine' g_tyL (by walk_at "lk") ?_))
  | ((with_reducible refine' g_aug ?gv ?_); (case gv => exact rfl))
  | (with_reducible refine g_ipI ?_)
  | (with_reducible refine g_turn ?_)
  | (with_reducible refine g_brk ?_)
  | (with_reducible refine g_cont ?_)
  | (with_reducible refine g_sign ?_)
  | (with_reducible refine g_lst ?_)
  | (with_reducible refine g_tup ?_)
  | ((with_reducible refine' g_ixL (by assumption) ?ga ?_); (case ga => assumption))
  | ((with_reducible refine' g_ixL (SqL.of (by walk_at "lk")) ?ga ?_); (case ga => first | exact rfl | assumption))
  | ((with_reducible refine' g_ixT (SqT.of (by walk_at "lk")) ?ga ?_); (case ga => first | exact rfl | assumption))
  | ((with_reducible refine' g_lenT (SqT.of (by walk_at "lk")) ?_))
  | ((with_reducible refine' g_isiS (b := true) ?ga ?_); (case ga => decide +kernel))
  | ((with_reducible refine' g_isiS (b := false) ?ga ?_); (case ga => decide +kernel))
  | ((with_reducible refine' g_isiI (b := true) ?ga ?_); (case ga => decide +kernel))
  | ((with_reducible refine' g_isiI (b := false) ?ga ?_); (case ga => decide +kernel))
  | ((with_reducible refine' g_setL2 ?ga ?gb ?_); (case ga => exact rfl); (case gb => exact rfl))
  | ((with_reducible refine' g_setL (by walk_at "lk") ?ga ?gb ?_); (case ga => exact rfl); (case gb => exact rfl)))
local macro_rules | `(tactic| walk_at "go") => `(tactic| ((repeat walk_at "go1"); try dsimp only [List.set, List.cons_append, List.nil_append]))
local macro_rules | `(tactic| walk_at "go1") => `(tactic| first
  | (with_reducible refine WOwn.g_fl ?_)
  | (with_reducible refine WOwn.g_sfl ?_)
  | (with_reducible refine WOwn.g_make ?_)
  | (with_reducible refine WOwn.g_meth ?_)
  | (with_reducible refine WOwn.g_sm ?_)
  | (with_reducible refine WOwn.g_cv ?_))
local macro_rules | `(tactic| walk_at "go1") => `(tactic| first
  | (with_reducible refine WDict.g_dget ?_)
  | (with_reducible refine WDict.g_din ?_)
  | (with_reducible refine WDict.g_dnotin ?_)
  | (with_reducible refine WDict.g_dput ?_)
  | (with_reducible refine WDict.g_dnew ?_)
  | (with_reducible refine WDict.g_dget2 ?_)
  | (with_reducible refine WDict.g_dsetd ?_)
  | (with_reducible refine WDict.g_disp ?_)
  | (with_reducible refine WDict.g_pair ?_)
  | (with_reducible refine WDict.g_pair0 ?_)
  | (with_reducible refine WDict.g_tru ?_))
local macro_rules | `(tactic| walk_at "go1") => `(tactic| first
  | (with_reducible refine g_iEnum ?_)
  | (with_reducible refine g_iTup ?_)
  | (with_reducible refine g_bm0 ?_)
  | ((with_reducible refine' g_gTup (SqT.of (by walk_at "lk")) ?gn ?_); (case gn => exact rfl)))
local macro_rules | `(tactic| walk_at "go1") => `(tactic| first
  | (with_reducible refine WDict.g_getS (by walk_at "lk") bd1 ?_)
  | (with_reducible refine WDict.g_getS (by walk_at "lk") bd2 ?_)
  | (with_reducible refine WDict.g_getS (by walk_at "lk") bd3 ?_)
  | (with_reducible refine WDict.g_getS (by walk_at "lk") bd4 ?_)
  | (with_reducible refine WDict.g_getS (by walk_at "lk") bd5 ?_)
  | (with_reducible refine WDict.g_getS (by walk_at "lk") bd6 ?_))
local macro_rules | `(tactic| walk_at "go1") => `(tactic| first
  | (with_reducible refine WDict.g_getS (by walk_at "lk") md2 ?_)
  | (with_reducible refine WDict.g_getS (by walk_at "lk") md3 ?_)
  | (with_reducible refine WDict.g_getS (by walk_at "lk") md4 ?_)
  | (with_reducible refine WDict.g_getS (by walk_at "lk") md5 ?_))
abbrev RegR := List (Addr × Nat × Nat × Nat)
def RegAt (H : Hp) (rg : RegR) : Prop := ∀ t ∈ rg, H t.1 = some (.tup [.str (Str.ofString "r"), .int (t.2.1 : Int), .int (t.2.2.1 : Int), .int (t.2.2.2 : Int)])
def exD (li lr lo : Addr) : List (Key × V) := [(.inr "inputs", .ref li), (.inr "regs", .ref lr), (.inr "outputs", .ref lo)]
/-- the world, whole -/
structure WA (m lp da lc li lr lo : Addr) (b : Nat) (r : Pairs) (n : Int) (cs : List Nat) (ins : Rows) (rg : RegR) (outs : Outs) (H : Hp) : Prop where
  M : MA m lp da b r n (.ref lc) (exD li lr lo) H
  hc : H lc = some (.lst (nv cs))
  hi : H li = some (.lst (ins.map fun t => V.ref t.1))
  ia : InsAt H ins
  hr : H lr = some (.lst (rg.map fun t => V.ref t.1))
  ra : RegAt H rg
  ho : H lo = some (.lst (outv outs))
  oa : OutAt H outs
structure WP (wide : Bool) (b : Nat) (r : Pairs) (cs : List Nat) (ins : Rows) (rg : RegR) (outs : Outs) : Prop where
  b0 : 0 < b
  b1 : b ≤ 24
  r1 : r.length ≤ 400
  s : 1 + (ins.map fun t => t.2.2).sum + (rg.length : Int) = (b : Int)
  i1 : ins.length ≤ 2
  g1 : rg.length ≤ 3
  o1 : outs.length ≤ 1
  ok : ∀ t ∈ outs, t.2.2.2.length ≤ 3 ∧ t.2.1 = Str.ofString "y"
  is : ∀ t ∈ ins, PyData.strOk t.2.1 = true
  w : wide = true → 13 ≤ b ∧ cs.length = b - 1 ∧ ChOk b r.length cs
def spWorld : Sp := fun vs H Q _ => ∃ (c g : Addr) (k : Nat) (wide : Bool), vs = [.ref g, .bl wide] ∧ Bag c g k H ∧ k ≤ 100 ∧
  ∀ (m lp da lc li lr lo : Addr) (b : Nat) (r : Pairs) (n : Int) (cs : List Nat) (ins : Rows) (rg : RegR) (outs : Outs) (k' : Nat) H', Kp g H H' → Bag c g k' H' → k' ≤ k + 1000 → WA m lp da lc li lr lo b r n cs ins rg outs H' → WP wide b r cs ins rg outs → Q (.ref m) H'
/-- the world as it grows -/
structure Wd (c g m lp da lc : Addr) (b : Nat) (r : Pairs) (n : Int) (ex : List (Key × V)) (cs : List Nat) (k : Nat) (H0 H : Hp) : Prop where
  kp : Kp g H0 H
  B : Bag c g k H
  M : MA m lp da b r n (.ref lc) ex H
  hc : H lc = some (.lst (nv cs))
  nc : c ≠ lp
  nl : lc ≠ lp
  zl : H0 lp = none
  za : H0 da = none
  zm : H0 m = none
section
variable {c g m lp da lc : Addr} {b : Nat} {r r' : Pairs} {n : Int} {ex : List (Key × V)} {cs : List Nat} {k k' : Nat} {H0 H H' : Hp}
theorem Wd.draw (s : Wd c g m lp da lc b r n ex cs k H0 H) (kp : Kp g H H') (B' : Bag c g k' H') : Wd c g m lp da lc b r n ex cs k' H0 H' := by
  have hg : lc ≠ g := by
    obtain ⟨_, _, _, _, _, _, h, _⟩ := s.B
    intro e
    have := s.hc
    rw [e, h] at this; cases this
  exact ⟨s.kp.trans kp, B', s.M.kp kp s.B, kp _ _ s.hc hg, s.nc, s.nl, s.zl, s.za, s.zm⟩
theorem Wd.both (s : Wd c g m lp da lc b r n ex cs k H0 H) (f : Fr lp da H H') (M' : MA m lp da b r' n (.ref lc) ex H') : Wd c g m lp da lc b r' n ex cs k H0 H' := by
  have hd : lc ≠ da := by
    obtain ⟨_, h, _⟩ := s.M.a
    intro e
    have := s.hc
    rw [e, h] at this; cases this
  exact ⟨fun x o h n => f _ _ (s.kp _ _ h n) (ne_of_none h s.zl) (ne_of_none h s.za), s.B.fr f s.M s.nc, M', f _ _ s.hc s.nl hd, s.nc, s.nl, s.zl, s.za, s.zm⟩
theorem MA.put {m lp da : Addr} {b : Nat} {r : Pairs} {n : Int} {vc vc' : V} {ex ex' : List (Key × V)} {H : Hp} (h : MA m lp da b r n vc ex H) : MA m lp da b r n vc' ex' (upd H m (.dK (madeD n b lp da vc' ex'))) := by
  obtain ⟨h1, h2, h3, ⟨kvs, h4, h5⟩, h6⟩ := h
  exact ⟨upd_same, by rw [upd_ne fun e => by rw [e, h1] at h2; cases h2]; exact h2, (fun t ht => by
    have := h3 t ht
    rw [upd_ne fun e => by rw [e, h1] at this; cases this]; exact this), ⟨kvs, by rw [upd_ne fun e => by rw [e, h1] at h4; cases h4]; exact h4, h5⟩, h6⟩
theorem Wd.put (s : Wd c g m lp da lc b r n ex cs k H0 H) (hB : Bag c g k' H0) {ex' : List (Key × V)} {lc' : Addr} {cs' : List Nat} (h : H lc' = some (.lst (nv cs'))) (hn : lc' ≠ lp) : Wd c g m lp da lc' b r n ex' cs' k H0 (upd H m (.dK (madeD n b lp da (.ref lc') ex'))) :=
  ⟨s.kp.mut s.zm, s.B.put (hB.nb s.zm).1 (hB.nb s.zm).2, s.M.put, by rw [upd_ne fun e => by rw [e, s.M.d] at h; cases h]; exact h, s.nc, hn, s.zl, s.za, s.zm⟩
theorem Wd.fr3 (s : Wd c g m lp da lc b r n ex cs k H0 H) (f : Fr3 g lp da H H') (B' : Bag c g k' H') (M' : MA m lp da b r' n (.ref lc) ex H') : Wd c g m lp da lc b r' n ex cs k' H0 H' := by
  have hd : lc ≠ da := by
    obtain ⟨_, h, _⟩ := s.M.a
    intro e
    have := s.hc
    rw [e, h] at this; cases this
  have hg : lc ≠ g := by
    obtain ⟨_, _, _, _, _, _, h, _⟩ := s.B
    intro e
    have := s.hc
    rw [e, h] at this; cases this
  exact ⟨fun x o h n => f _ _ (s.kp _ _ h n) n (ne_of_none h s.zl) (ne_of_none h s.za), B', M', f _ _ s.hc hg s.nl hd, s.nc, s.nl, s.zl, s.za, s.zm⟩
theorem mdl {n : Int} {b : Nat} {lp da : Addr} {vc : V} {ex : List (Key × V)} (h : ex.length ≤ 3) : (madeD n b lp da vc ex).length < sizeLine := Nat.lt_of_lt_of_le (m := 9) (by show ex.length + 5 < 9; omega) (by decide)
theorem Wd.same (s : Wd c g m lp da lc b r n ex cs k H0 H) (h : Same H H') : Wd c g m lp da lc b r n ex cs k H0 H' := ⟨s.kp.trans (Kp.same h), s.B.same h, s.M.same h, h _ _ s.hc, s.nc, s.nl, s.zl, s.za, s.zm⟩
end
theorem okA : PyData.strOk (Str.ofString "a") = true := by decide +kernel
theorem okB : PyData.strOk (Str.ofString "b") = true := by decide +kernel
theorem Wd.app {acc acc' : List V} {D c g m lp da lc : Addr} {b : Nat} {r : Pairs} {n : Int} {ex : List (Key × V)} {cs : List Nat} {k : Nat} {H0 H : Hp} (s : Wd c g m lp da lc b r n ex cs k H0 H) (hD : H D = some (.lst acc)) (n1 : D ≠ c) (n2 : D ≠ lp) (n3 : D ≠ lc) (n4 : H0 D = none) : Wd c g m lp da lc b r n ex cs k H0 (upd H D (.lst acc')) := by
  obtain ⟨h1, h2, h3, ⟨kvs, h4, h5⟩, h6⟩ := s.M
  obtain ⟨_, _, _, _, _, _, hg, _⟩ := s.B
  exact ⟨s.kp.mut n4, s.B.put (fun e => by rw [e, hg] at hD; cases hD) n1, ⟨by rw [upd_ne fun e => by rw [← e, h1] at hD; cases hD]; exact h1, by rw [upd_ne n2.symm]; exact h2, (fun t ht => by
    have := h3 t ht
    rw [upd_ne fun e => by rw [e, hD] at this; cases this]; exact this), ⟨kvs, by rw [upd_ne fun e => by rw [← e, h4] at hD; cases hD]; exact h4, h5⟩, h6⟩, by rw [upd_ne n3.symm]; exact s.hc, s.nc, s.nl, s.zl, s.za, s.zm⟩
def RegL (H : Hp) (lr : Addr) (rg : RegR) : Prop := H lr = some (.lst (rg.map fun t => V.ref t.1)) ∧ RegAt H rg
def NoD (o : HO) : Prop := ∀ kvs, o ≠ .dK kvs
theorem nl_ {xs : List V} : NoD (.lst xs) := fun _ h => by cases h
theorem nt_ {xs : List V} : NoD (.tup xs) := fun _ h => by cases h
theorem Bag.stay {c g x : Addr} {k : Nat} {H H' : Hp} {o : HO} (B : Bag c g k H) (kp : Kp g H H') (h : H x = some o) (ho : NoD o) : H' x = some o := kp _ _ h fun e => by
  obtain ⟨_, _, _, _, _, _, hb, _⟩ := B
  rw [e, hb] at h
  exact ho _ (Option.some.inj h).symm
theorem MA.stay {m lp da x : Addr} {b : Nat} {r : Pairs} {n : Int} {vc : V} {ex : List (Key × V)} {H : Hp} {o o' : HO} (M : MA m lp da b r n vc ex H) (h : H x = some o) (ho : NoD o) : upd H m o' x = some o := by
  rw [upd_ne fun e => by rw [e, M.d] at h; exact ho _ (Option.some.inj h).symm]
  exact h
def InsL (H : Hp) (li : Addr) (ins : Rows) : Prop := H li = some (.lst (ins.map fun t => V.ref t.1)) ∧ InsAt H ins
theorem InsL.draw {c g li : Addr} {k : Nat} {H H' : Hp} {ins : Rows} (h : InsL H li ins) (B : Bag c g k H) (kp : Kp g H H') : InsL H' li ins := ⟨B.stay kp h.1 nl_, fun t ht => B.stay kp (h.2 t ht) nt_⟩
theorem InsL.put {m lp da li : Addr} {b : Nat} {r : Pairs} {n : Int} {vc : V} {ex : List (Key × V)} {H : Hp} {o' : HO} {ins : Rows} (h : InsL H li ins) (M : MA m lp da b r n vc ex H) : InsL (upd H m o') li ins := ⟨M.stay h.1 nl_, fun t ht => M.stay (h.2 t ht) nt_⟩
theorem RegL.draw {c g lr : Addr} {k : Nat} {H H' : Hp} {rg : RegR} (h : RegL H lr rg) (B : Bag c g k H) (kp : Kp g H H') : RegL H' lr rg := ⟨B.stay kp h.1 nl_, fun t ht => B.stay kp (h.2 t ht) nt_⟩
theorem RegL.put {m lp da lr : Addr} {b : Nat} {r : Pairs} {n : Int} {vc : V} {ex : List (Key × V)} {H : Hp} {o' : HO} {rg : RegR} (h : RegL H lr rg) (M : MA m lp da b r n vc ex H) : RegL (upd H m o') lr rg := ⟨M.stay h.1 nl_, fun t ht => M.stay (h.2 t ht) nt_⟩
theorem RegL.same {lr : Addr} {H H' : Hp} {rg : RegR} (h : RegL H lr rg) (s : Same H H') : RegL H' lr rg := ⟨s _ _ h.1, fun t ht => s _ _ (h.2 t ht)⟩
theorem InsL.app {li D : Addr} {H : Hp} {ins : Rows} {acc acc' : List V} (h : InsL H li ins) (hD : H D = some (.lst acc)) (n : li ≠ D) : InsL (upd H D (.lst acc')) li ins := ⟨by rw [upd_ne n]; exact h.1, fun t ht => by
  have := h.2 t ht
  rw [upd_ne fun e => by rw [e, hD] at this; cases this]; exact this⟩
theorem RegL.app {lr D : Addr} {H : Hp} {rg : RegR} {acc acc' : List V} (h : RegL H lr rg) (hD : H D = some (.lst acc)) (n : lr ≠ D) : RegL (upd H D (.lst acc')) lr rg := ⟨by rw [upd_ne n]; exact h.1, fun t ht => by
  have := h.2 t ht
  rw [upd_ne fun e => by rw [e, hD] at this; cases this]; exact this⟩
theorem InsL.same {li : Addr} {H H' : Hp} {ins : Rows} (h : InsL H li ins) (s : Same H H') : InsL H' li ins := ⟨s _ _ h.1, fun t ht => s _ _ (h.2 t ht)⟩
variable {P : Program} {w : World} {K : PySem.W.Frag} {mg : Str → Option Value} {base : Heap} {dA : Nat → Addr}
theorem ok__law_world (T : Txt K mg dA) (c__law_draw : C8.Cal P w K mg base 1 "_law_draw" spDraw []) (c__law_chain : C8.Cal P w K mg base 3 "_law_chain" spChain []) (c__law_literal : C8.Cal P w K mg base 2 "_law_literal" spLitr []) (c__law_both : C8.Cal P w K mg base 2 "_law_both" spBoth []) {f : Addr} {fd : FuncData} (F : Fun K "_law_world" "_law_world" s__law_world f fd) : FnOk P w K mg base CX0 4 f fd ["bag", "wide"] spWorld := by
  refine F.ok sc__law_world (fun vs H Q E h => ?_) (fun cdv A outer s H vs Q E hr h => ?_)
  · obtain ⟨c, g, k, wide, rfl, _⟩ := h
    rfl
  obtain ⟨c, g, k, wide, rfl, hB, hk, q⟩ := h
  refine ⟨_, (pss_cons (ps_set (i := 2) sc__law_world.nd rfl (.inl rfl) (C8.pe_c c__law_draw hr (by decide) (by rfl) (pa_cons (pv 0) (pa_cons pe_int pa_nil))))
      (Evl.pss_cut (ps_if (pt_val (pv 1)) (pss_one (ps_set (i := 2) sc__law_world.nd rfl (.inl rfl) (pe_op op_add pe_int (C8.pe_c c__law_draw hr (by decide) (by rfl) (pa_cons (pv 0) (pa_cons pe_int pa_nil)))))) pss_nil)
      (pss_cons (ps_set (i := 3) sc__law_world.nd rfl (.inl rfl) (C8.pe_c c__law_draw hr (by decide) (by rfl) (pa_cons (pv 0) (pa_cons pe_int pa_nil))))
      (pss_cons (ps_set (i := 4) sc__law_world.nd rfl (.inr rfl) (pe_disp (pps_cons pe_str (pv 2) (pps_cons pe_str (pe_op op_add (pe_op op_add pe_int (pv 2)) (pv 3)) (pps_cons pe_str (pe_lst pa_nil) (pps_cons pe_str (pe_dnewT) (pps_cons pe_str (pe_lst pa_nil) pps_nil))))) (by rfl) (by rfl) (fun z => by cases z) (by decide)))
      (Evl.pss_cut (ps_if (pt_val (pv 1)) (pss_one (ps_dput (hu_of hr) (pv 4) pe_str (C8.pe_c c__law_chain hr (by decide) (by rfl) (pa_cons (pv 0) (pa_cons (pv 4) pa_nil))) (by rfl))) pss_nil)
      (pss_cons (ps_set (i := 5) sc__law_world.nd rfl (.inl rfl) (C8.pe_c c__law_draw hr (by decide) (by rfl) (pa_cons (pv 0) (pa_cons pe_int pa_nil))))
      (Evl.pss_cut (ps_if (pt_val (pv 1)) (pss_one (ps_set (i := 5) sc__law_world.nd rfl (.inl rfl) (pe_op op_fdiv (pv 5) pe_int))) pss_nil)
      (Evl.pss_cut (ps_for PassesOwn.never rfl (pi_range1 (by rfl) T.b_range (pa_cons (pv 5) pa_nil)) (pg_name (i := 6) sc__law_world.nd rfl (.inl rfl)) (pss_cons (ps_set (i := 7) sc__law_world.nd rfl (.inl rfl) (C8.pe_c c__law_literal hr (by decide) (by rfl) (pa_cons (pv 0) (pa_cons (pv 4) pa_nil))))
      (pss_cons (ps_set (i := 8) sc__law_world.nd rfl (.inl rfl) (C8.pe_c c__law_literal hr (by decide) (by rfl) (pa_cons (pv 0) (pa_cons (pv 4) pa_nil))))
      (pss_one (ps_expr (C8.pe_c c__law_both hr (by decide) (by rfl) (pa_cons (pv 4) (pa_cons (pv 7) (pa_cons (pv 8) pa_nil)))))))))
      (pss_cons (ps_dput (hu_of hr) (pv 4) pe_str (pe_lst pa_nil) (by rfl))
      (Evl.pss_cut (ps_if (pt_cmpR op_gt (pv 2) pe_int (nomark _)) (pss_cons (ps_set (i := 9) sc__law_world.nd rfl (.inl rfl) (pe_callB (call_max2 rfl) (by rfl) T.b_max (by decide +kernel) (pa_cons pe_int (pa_cons (pe_op op_sub (pv 2) pe_int) pa_nil))))
      (pss_cons (ps_set (i := 10) sc__law_world.nd rfl (.inl rfl) (pe_op op_add (pv 9) (C8.pe_c c__law_draw hr (by decide) (by rfl) (pa_cons (pv 0) (pa_cons (pe_op op_add (pe_op op_sub (pe_callB (call_min2 rfl) (by rfl) T.b_min (by decide +kernel) (pa_cons pe_int (pa_cons (pv 2) pa_nil))) (pv 9)) pe_int) pa_nil)))))
      (pss_cons (ps_dput (hu_of hr) (pv 4) pe_str (pe_lst (pa_cons (pe_tup (pa_cons pe_str (pa_cons (pv 10) pa_nil))) pa_nil)) (by rfl))
      (pss_one (ps_if (pt_cmpR op_lt (pv 10) (pv 2) (nomark _)) (pss_one (ps_dput (hu_of hr) (pv 4) pe_str (pe_lst (pa_cons (pe_tup (pa_cons pe_str (pa_cons (pv 10) pa_nil))) (pa_cons (pe_tup (pa_cons pe_str (pa_cons (pe_op op_sub (pv 2) (pv 10)) pa_nil))) pa_nil))) (by rfl))) pss_nil))))) pss_nil)
      (pss_cons (ps_dput (hu_of hr) (pv 4) pe_str (pe_lc (own := [("k", 11)]) rfl sc__law_world.nd (pi_range1 (by rfl) T.b_range (pa_cons (pv 3) pa_nil)) (blkOk_by (own := [("k", 11)]) (N := ["bag", "wide", "bits", "count", "made", "many", "turn", "x", "y", "least", "width", "k"]) (sc := defScope s__law_world) (by decide +kernel)) (fun _ _ _ _ _ => (pg_name (i := 11) sc__law_world.nd rfl (.inl rfl))) (fun _ _ _ _ _ => pts_nil) (fun _ _ _ _ _ => (pe_tup (pa_cons pe_str (pa_cons (pv 11) (pa_cons (C8.pe_c c__law_draw hr (by decide) (by rfl) (pa_cons (pv 0) (pa_cons pe_int pa_nil))) (pa_cons (C8.pe_c c__law_literal hr (by decide) (by rfl) (pa_cons (pv 0) (pa_cons (pv 4) pa_nil))) pa_nil))))))) (by rfl))
      (pss_cons (ps_dput (hu_of hr) (pv 4) pe_str (pe_lst (pa_cons (pe_tup (pa_cons pe_str (pa_cons (pe_lc (own := [("k", 11)]) rfl sc__law_world.nd (pi_range1 (by rfl) T.b_range (pa_cons (pe_op op_add pe_int (C8.pe_c c__law_draw hr (by decide) (by rfl) (pa_cons (pv 0) (pa_cons pe_int pa_nil)))) pa_nil)) (blkOk_by (own := [("k", 11)]) (N := ["bag", "wide", "bits", "count", "made", "many", "turn", "x", "y", "least", "width", "k"]) (sc := defScope s__law_world) (by decide +kernel)) (fun _ _ _ _ _ => (pg_name (i := 11) sc__law_world.nd rfl (.inl rfl))) (fun _ _ _ _ _ => pts_nil) (fun _ _ _ _ _ => (C8.pe_c c__law_literal hr (by decide) (by rfl) (pa_cons (pv 0) (pa_cons (pv 4) pa_nil))))) pa_nil))) pa_nil)) (by rfl))
      (pss_one (ps_ret (pv 4))))))))))))))), ?_⟩
  rw [show (L2.start ["bag", "wide", "bits", "count", "made", "many", "turn", "x", "y", "least", "width", "k"] [.ref g, .bl wide] : L2.St) = [some (.ref g), some (.bl wide), none, none, none, none, none, none, none, none, none, none] from rfl]
  try simp only [WL.cxK]
  walk_at "go"
  refine g_draw hB (by omega) (by decide) (by decide) fun d H1 hd k1 B1 => ?_
  walk_at "go"
  refine ⟨fun σ' H' => ∃ (n k' : Nat), σ' = [some (.ref g), some (.bl wide), some (.int (n : Int)), none, none, none, none, none, none, none, none, none] ∧ n ≤ 20 ∧ (wide = true → 12 ≤ n) ∧ Kp g H H' ∧ Bag c g k' H' ∧ k' ≤ k + 2, ?_, fun σ' H' hW => ?_⟩
  · walk_at "go"
    refine g_iteB (fun e => ?_) (fun e => ?_)
    · walk_at "go"
      refine g_draw B1 (by omega) (by decide) (by decide) fun d2 H2 hd2 k2 B2 => ?_
      walk_at "go"
      exact ⟨12 + d2, _, rfl, by omega, fun _ => by omega, k1.trans k2, B2, by omega⟩
    · walk_at "go"
      exact ⟨d, _, rfl, by omega, (fun h => by rw [e] at h; cases h), k1, B1, by omega⟩
  obtain ⟨n, k', rfl, hn, hw, k1, B1, hk1⟩ := hW
  walk_at "go"
  refine g_draw B1 (by omega) (by decide) (by decide) fun ct H2 hct k2 B2 => ?_
  walk_at "go"
  intro m nm
  have a1 := same_new (o := .dK []) nm
  have e1 : upd H2 m (.dK []) m = some (.dK []) := upd_same
  generalize upd H2 m (.dK []) = H3 at a1 e1 ⊢
  walk_at "go"
  refine ⟨Nat.zero_le _, fun lp nlp => ?_⟩
  have a2 := a1.trans (same_new (o := .lst []) nlp)
  have f1 := same_new (o := .lst []) nlp _ _ e1
  have f2 : upd H3 lp (.lst []) lp = some (.lst []) := upd_same
  have zlp := a1.free nlp
  generalize upd H3 lp (.lst []) = H4 at a2 f1 f2 ⊢
  walk_at "go"
  intro da nda
  have a3 := a2.trans (same_new (o := .dT []) nda)
  have g1 := same_new (o := .dT []) nda _ _ f1
  have g2 := same_new (o := .dT []) nda _ _ f2
  have g3 : upd H4 da (.dT []) da = some (.dT []) := upd_same
  have zda := a2.free nda
  generalize upd H4 da (.dT []) = H5 at a3 g1 g2 g3 ⊢
  walk_at "go"
  refine ⟨Nat.zero_le _, fun lc nlc => ?_⟩
  have a4 := a3.trans (same_new (o := .lst []) nlc)
  have h1 := same_new (o := .lst []) nlc _ _ g1
  have h2 := same_new (o := .lst []) nlc _ _ g2
  have h3 := same_new (o := .lst []) nlc _ _ g3
  have h4 : upd H5 lc (.lst []) lc = some (.lst (nv [])) := upd_same
  have nlcp : lc ≠ lp := (ne_of_none g2 nlc).symm
  generalize upd H5 lc (.lst []) = H6 at a4 h1 h2 h3 h4 ⊢
  walk_at "go"
  refine ⟨h1, madeD (n : Int) (1 + n + ct) lp da (.ref lc) [], by show _ = List.map _ _; simp [madeD, kV], by show 5 ≤ 15; decide, ?_⟩
  rw [show mergeK [] (madeD (n : Int) (1 + n + ct) lp da (.ref lc) []) = madeD (n : Int) (1 + n + ct) lp da (.ref lc) [] from rfl]
  have nlm : lp ≠ m := fun e => by rw [e, h1] at h2; cases h2
  have ndm : da ≠ m := fun e => by rw [e, h1] at h3; cases h3
  have ncm : lc ≠ m := fun e => by rw [e, h1] at h4; cases h4
  have W0 : Wd c g m lp da lc (1 + n + ct) [] (n : Int) [] [] (k' + 1) H (upd H6 m (.dK (madeD (n : Int) (1 + n + ct) lp da (.ref lc) []))) := by
    have zH : ∀ x, H2 x = none → H x = none := fun x hx => (k1.trans k2).free (B2.nb hx).1 hx
    exact ⟨((k1.trans k2).trans (Kp.same a4)).mut (zH m nm), (B2.same a4).put (B2.nb nm).1 (B2.nb nm).2, ⟨upd_same, by rw [upd_ne nlm]; exact h2, (fun _ h => by cases h), ⟨[], by rw [upd_ne ndm]; exact h3, Nat.le_refl _, fun _ _ h => by cases h⟩, PrOk.nil⟩, by rw [upd_ne ncm]; exact h4, (B2.nb zlp).2.symm, nlcp, zH lp zlp, zH da zda, zH m nm⟩
  generalize upd H6 m (.dK (madeD (n : Int) (1 + n + ct) lp da (.ref lc) [])) = H7 at W0 ⊢
  walk_at "go"
  refine ⟨fun σ' H' => ∃ (lc : Addr) (cs : List Nat) (r : Pairs) (k2 : Nat), σ' = [some (.ref g), some (.bl wide), some (.int (n : Int)), some (.int (ct : Int)), some (.ref m), none, none, none, none, none, none, none] ∧ Wd c g m lp da lc (1 + n + ct) r (n : Int) [] cs k2 H H' ∧ k2 ≤ k + 310 ∧ r.length ≤ 300 ∧ (wide = true → cs.length = n + ct ∧ ChOk (1 + n + ct) r.length cs), ?_, fun σ' H' hW => ?_⟩
  · walk_at "go"
    refine g_iteB (fun e => ?_) (fun e => ?_)
    · walk_at "go"
      have := hw e
      refine ⟨c, g, k' + 1, m, lp, da, 1 + n + ct, [], n, _, _, rfl, W0.B, by omega, W0.M, W0.nc, by omega, by omega, by decide, fun q cs r' k3 H8 f8 B8 hk8 M8 hr8 nq hq hcl hch => ?_⟩
      walk_at "go"
      have W8 := W0.fr3 f8 B8 M8
      refine WDict.g_putS M8.d (mdl (by decide)) ?_
      rw [show putK (madeD (n : Int) (1 + n + ct) lp da (.ref lc) []) (.inr "chain") (.ref q) = madeD (n : Int) (1 + n + ct) lp da (.ref q) [] from rfl]
      exact ⟨q, cs, r', k3, rfl, W8.put hB hq (ne_of_none W0.M.l nq).symm, by omega, by simpa using hr8, fun _ => ⟨by omega, hch⟩⟩
    · walk_at "go"
      exact ⟨lc, [], [], _, rfl, W0, by omega, by decide, fun h => by rw [e] at h; cases h⟩
  clear W0
  obtain ⟨lc, cs, r, k3, rfl, W1, hk3, hr3, hwc⟩ := hW
  walk_at "go"
  refine g_draw W1.B (by omega) (by decide) (by decide) fun mn H8 hmn k8 B8 => ?_
  have W2 := W1.draw k8 B8
  walk_at "go"
  refine ⟨fun σ' H' => ∃ mn : Nat, σ' = [some (.ref g), some (.bl wide), some (.int (n : Int)), some (.int (ct : Int)), some (.ref m), some (.int (mn : Int)), none, none, none, none, none, none] ∧ H' = H8 ∧ mn ≤ 24, ?_, fun σ' H' hW => ?_⟩
  · walk_at "go"
    refine g_iteB (fun e => ?_) (fun e => ?_)
    · walk_at "go"
      exact ⟨mn / 2, by rw [show (mn : Int) / 2 = ((mn / 2 : Nat) : Int) by omega], rfl, by omega⟩
    · walk_at "go"
      exact ⟨mn, rfl, rfl, by omega⟩
  obtain ⟨mn, rfl, rfl, hmn⟩ := hW
  walk_at "go"
  refine ⟨fun σ' H' => ∃ (r' : Pairs) (k4 : Nat) (y1 y2 y3 : Option V), σ' = [some (.ref g), some (.bl wide), some (.int (n : Int)), some (.int (ct : Int)), some (.ref m), some (.int (mn : Int)), y1, y2, y3, none, none, none] ∧ Wd c g m lp da lc (1 + n + ct) r' (n : Int) [] cs k4 H H' ∧ k4 ≤ k + 500 ∧ r'.length ≤ 330 ∧ r.length ≤ r'.length, ?_, fun σ' H' hW => ?_⟩
  · walk_at "go"
    refine f_rng1 (z := (mn : Int)) (by omega) (by omega) (fun i σ' H' => ∃ (r' : Pairs) (k4 : Nat) (y1 y2 y3 : Option V), σ' = [some (.ref g), some (.bl wide), some (.int (n : Int)), some (.int (ct : Int)), some (.ref m), some (.int (mn : Int)), y1, y2, y3, none, none, none] ∧ Wd c g m lp da lc (1 + n + ct) r' (n : Int) [] cs k4 H H' ∧ k4 ≤ k + 311 + 4 * i ∧ r'.length ≤ 300 + i ∧ r.length ≤ r'.length)
      ⟨r, k3 + 1, none, none, none, rfl, W2, by omega, by omega, Nat.le_refl _⟩ (fun i σ' H' hi hP => ?_) (fun σ' H' hP => ?_)
    · obtain ⟨r', k4, y1, y2, y3, rfl, W3, hk4, hr4, hrr⟩ := hP
      walk_at "go"
      refine ⟨c, g, k4, m, lp, da, 1 + n + ct, r', n, _, _, rfl, W3.B, by omega, W3.M, by omega, by omega, by omega, fun L H9 hL k9 B9 M9 => ?_⟩
      have W4 := W3.draw k9 B9
      walk_at "go"
      refine ⟨c, g, _, m, lp, da, 1 + n + ct, r', n, _, _, rfl, W4.B, by omega, W4.M, by omega, by omega, by omega, fun L2 H10 hL2 k10 B10 M10 => ?_⟩
      have W5 := W4.draw k10 B10
      walk_at "go"
      refine ⟨m, lp, da, 1 + n + ct, r', n, _, _, L, L2, rfl, W5.M, by omega, by omega, by omega, by omega, by omega, fun L3 r3 H11 f11 M11 h7 h8 h9 => ?_⟩
      have W6 := W5.both f11 M11
      walk_at "go"
      exact ⟨r3, _, _, _, _, rfl, W6, by omega, by omega, by omega⟩
    · obtain ⟨r', k4, y1, y2, y3, rfl, W3, hk4, hr4, hrr⟩ := hP
      exact ⟨r', k4, y1, y2, y3, rfl, W3, by omega, by omega, hrr⟩
  obtain ⟨r', k4, y1, y2, y3, rfl, W3, hk4, hr4, hrr⟩ := hW
  walk_at "go"
  refine ⟨Nat.zero_le _, fun li nli => ?_⟩
  have W4 := W3.same (same_new (o := .lst []) nli)
  have hli : InsL (upd H' li (.lst [])) li [] := ⟨upd_same, fun _ h => by cases h⟩
  generalize upd H' li (.lst []) = H9 at W4 hli ⊢
  walk_at "go"
  refine WDict.g_putS W4.M.d (mdl (by decide)) ?_
  rw [show putK (madeD (n : Int) (1 + n + ct) lp da (.ref lc) []) (.inr "inputs") (.ref li) = madeD (n : Int) (1 + n + ct) lp da (.ref lc) [(.inr "inputs", .ref li)] from rfl]
  have W5 := W4.put hB (ex' := [(.inr "inputs", .ref li)]) W4.hc W4.nl
  have hli5 := hli.put W4.M (o' := .dK (madeD (n : Int) (1 + n + ct) lp da (.ref lc) [(.inr "inputs", .ref li)]))
  generalize upd H9 m (.dK (madeD (n : Int) (1 + n + ct) lp da (.ref lc) [(.inr "inputs", .ref li)])) = H10 at W5 hli5 ⊢
  clear hli W4
  walk_at "go"
  refine ⟨fun σ' H' => ∃ (li : Addr) (ins : Rows) (k5 : Nat) (z1 z2 : Option V), σ' = [some (.ref g), some (.bl wide), some (.int (n : Int)), some (.int (ct : Int)), some (.ref m), some (.int (mn : Int)), y1, y2, y3, z1, z2, none] ∧ Wd c g m lp da lc (1 + n + ct) r' (n : Int) [(.inr "inputs", .ref li)] cs k5 H H' ∧ k5 ≤ k + 510 ∧ InsL H' li ins ∧ (ins.map fun t => t.2.2).sum = (n : Int) ∧ ins.length ≤ 2 ∧ (∀ t ∈ ins, PyData.strOk t.2.1 = true), ?_, fun σ' H' hW => ?_⟩
  · walk_at "go"
    refine g_ite (fun e => ?_) (fun e => ?_)
    · walk_at "go"
      have hle : (if (n : Int) - 16 > 1 then (n : Int) - 16 else 1) = ((max 1 (n - 16) : Nat) : Int) := by split <;> omega
      have hmi : (if (n : Int) < 16 then (n : Int) else 16) = ((min 16 n : Nat) : Int) := by split <;> omega
      rw [hle, hmi]
      refine g_draw W5.B (by omega) (by omega) (by omega) fun d H11 hd k11 B11 => ?_
      have W6 := W5.draw k11 B11
      walk_at "go"
      rw [show ((max 1 (n - 16) : Nat) : Int) + (d : Int) = ((max 1 (n - 16) + d : Nat) : Int) by omega]
      have hwd : max 1 (n - 16) + d ≤ n := by omega
      generalize max 1 (n - 16) + d = wd at hwd ⊢
      refine ⟨sz_le (n := 2) (by decide), fun t1 nt1 => ?_⟩
      have W7 := W6.same (same_new (o := .tup [V.str (Str.ofString "a"), V.int (wd : Int)]) nt1)
      have e7 : upd H11 t1 (.tup [V.str (Str.ofString "a"), V.int (wd : Int)]) t1 = some (.tup [V.str (Str.ofString "a"), V.int (wd : Int)]) := upd_same
      generalize upd H11 t1 (.tup [V.str (Str.ofString "a"), V.int (wd : Int)]) = H12 at W7 e7 ⊢
      walk_at "go"
      refine ⟨sz_le (n := 1) (by decide), fun l2 nl2 => ?_⟩
      have W8 := W7.same (same_new (o := .lst [V.ref t1]) nl2)
      have i8 : InsL (upd H12 l2 (.lst [V.ref t1])) l2 [(t1, Str.ofString "a", (wd : Int))] := ⟨upd_same, fun t ht => by rw [List.mem_singleton.mp ht]; exact same_new nl2 _ _ e7⟩
      generalize upd H12 l2 (.lst [V.ref t1]) = H13 at W8 i8 ⊢
      walk_at "go"
      refine WDict.g_putS W8.M.d (mdl (by simp)) ?_
      rw [show putK (madeD (n : Int) (1 + n + ct) lp da (.ref lc) [(.inr "inputs", .ref li)]) (.inr "inputs") (.ref l2) = madeD (n : Int) (1 + n + ct) lp da (.ref lc) [(.inr "inputs", .ref l2)] from rfl]
      have W9 := W8.put hB (ex' := [(.inr "inputs", .ref l2)]) W8.hc W8.nl
      have i9 := i8.put W8.M (o' := .dK (madeD (n : Int) (1 + n + ct) lp da (.ref lc) [(.inr "inputs", .ref l2)]))
      generalize upd H13 m (.dK (madeD (n : Int) (1 + n + ct) lp da (.ref lc) [(.inr "inputs", .ref l2)])) = H14 at W9 i9 ⊢
      walk_at "go"
      refine g_ite (fun e => ?_) (fun e => ?_)
      · walk_at "go"
        refine ⟨sz_le (n := 2) (by decide), fun t3 nt3 => ?_⟩
        have W10 := W9.same (same_new (o := .tup [V.str (Str.ofString "a"), V.int (wd : Int)]) nt3)
        have e10 : upd H14 t3 (.tup [V.str (Str.ofString "a"), V.int (wd : Int)]) t3 = some (.tup [V.str (Str.ofString "a"), V.int (wd : Int)]) := upd_same
        generalize upd H14 t3 (.tup [V.str (Str.ofString "a"), V.int (wd : Int)]) = H15 at W10 e10 ⊢
        walk_at "go"
        refine ⟨sz_le (n := 2) (by decide), fun t4 nt4 => ?_⟩
        have W11 := W10.same (same_new (o := .tup [V.str (Str.ofString "b"), V.int ((n : Int) - (wd : Int))]) nt4)
        have e11 := same_new (o := .tup [V.str (Str.ofString "b"), V.int ((n : Int) - (wd : Int))]) nt4 _ _ e10
        have f11 : upd H15 t4 (.tup [V.str (Str.ofString "b"), V.int ((n : Int) - (wd : Int))]) t4 = some (.tup [V.str (Str.ofString "b"), V.int ((n : Int) - (wd : Int))]) := upd_same
        generalize upd H15 t4 (.tup [V.str (Str.ofString "b"), V.int ((n : Int) - (wd : Int))]) = H16 at W11 e11 f11 ⊢
        walk_at "go"
        refine ⟨sz_le (n := 2) (by decide), fun l5 nl5 => ?_⟩
        have W12 := W11.same (same_new (o := .lst [V.ref t3, V.ref t4]) nl5)
        have i12 : InsL (upd H16 l5 (.lst [V.ref t3, V.ref t4])) l5 [(t3, Str.ofString "a", (wd : Int)), (t4, Str.ofString "b", (n : Int) - (wd : Int))] := ⟨upd_same, fun t ht => by
          rcases List.mem_cons.mp ht with rfl | ht
          · exact same_new nl5 _ _ e11
          · rw [List.mem_singleton.mp ht]; exact same_new nl5 _ _ f11⟩
        generalize upd H16 l5 (.lst [V.ref t3, V.ref t4]) = H17 at W12 i12 ⊢
        walk_at "go"
        refine WDict.g_putS W12.M.d (mdl (by simp)) ?_
        rw [show putK (madeD (n : Int) (1 + n + ct) lp da (.ref lc) [(.inr "inputs", .ref l2)]) (.inr "inputs") (.ref l5) = madeD (n : Int) (1 + n + ct) lp da (.ref lc) [(.inr "inputs", .ref l5)] from rfl]
        exact ⟨l5, _, _, _, _, rfl, W12.put hB W12.hc W12.nl, by omega, i12.put W12.M, by simp; omega, by simp, fun t ht => by
          rcases List.mem_cons.mp ht with rfl | ht
          · exact okA
          · rw [List.mem_singleton.mp ht]; exact okB⟩
      · walk_at "go"
        exact ⟨l2, _, _, _, _, rfl, W9, by omega, i9, by simp; omega, by simp, fun t ht => by rw [List.mem_singleton.mp ht]; exact okA⟩
    · walk_at "go"
      exact ⟨li, [], _, _, _, rfl, W5, by omega, hli5, by simp; omega, by decide, fun _ h => by cases h⟩
  clear W3 W5 hli5
  obtain ⟨li, ins, k5, z1, z2, rfl, W6, hk5, hI, hsum, hil, hiok⟩ := hW
  have hcc : ∃ cells, H' c = some (.lst cells) := by obtain ⟨cells, _, _, _, _, _, _, h, _⟩ := W6.B; exact ⟨_, h⟩
  obtain ⟨cells, hcc⟩ := hcc
  have zD : ∀ D, H' D = none → D ≠ c ∧ D ≠ lp ∧ D ≠ lc ∧ H D = none := fun D nD => ⟨(ne_of_none hcc nD).symm, (ne_of_none W6.M.l nD).symm, (ne_of_none W6.hc nD).symm, W6.kp.free (W6.B.nb nD).1 nD⟩
  walk_at "go"
  refine f_lcR (z := (ct : Int)) (by omega) (by omega) (fun D i H2 => ∃ (rg : RegR) (k6 : Nat), Wd c g m lp da lc (1 + n + ct) r' (n : Int) [(.inr "inputs", .ref li)] cs k6 H H2 ∧ k6 ≤ k5 + 3 * i ∧ InsL H2 li ins ∧ RegL H2 D rg ∧ rg.length = i) (fun D nD => ⟨[], k5, W6.same (same_new nD), by omega, hI.same (same_new nD), ⟨upd_same, fun _ h => by cases h⟩, rfl⟩) (fun D i H2 nD hi hP => ?_) (fun D H2 nD hP => ?_)
  · obtain ⟨rg, k6, W7, hk6, hI7, hR7, hrl⟩ := hP
    obtain ⟨zc, zl, zlc, zH⟩ := zD D nD
    walk_at "go"
    refine ⟨rfl, ?_⟩
    walk_at "go"
    refine g_draw W7.B (by omega) (by decide) (by decide) fun d H3 hd k8 B8 => ?_
    have W8 := W7.draw k8 B8
    have hI8 := hI7.draw W7.B k8
    have hR8 := hR7.draw W7.B k8
    walk_at "go"
    refine ⟨c, g, _, m, lp, da, 1 + n + ct, r', n, _, _, rfl, W8.B, by omega, W8.M, by omega, by omega, by omega, fun L H4 hL k9 B9 M9 => ?_⟩
    have W9 := W8.draw k9 B9
    have hI9 := hI8.draw W8.B k9
    have hR9 := hR8.draw W8.B k9
    walk_at "go"
    refine ⟨sz_le (n := 4) (by decide), fun t1 nt1 => ?_⟩
    have W10 := W9.same (same_new (o := .tup [V.str (Str.ofString "r"), V.int (i : Int), V.int (d : Int), V.int (L : Int)]) nt1)
    have hI10 := hI9.same (same_new (o := .tup [V.str (Str.ofString "r"), V.int (i : Int), V.int (d : Int), V.int (L : Int)]) nt1)
    have hR10 := hR9.same (same_new (o := .tup [V.str (Str.ofString "r"), V.int (i : Int), V.int (d : Int), V.int (L : Int)]) nt1)
    have e10 : upd H4 t1 (.tup [V.str (Str.ofString "r"), V.int (i : Int), V.int (d : Int), V.int (L : Int)]) t1 = some (.tup [V.str (Str.ofString "r"), V.int (i : Int), V.int (d : Int), V.int (L : Int)]) := upd_same
    generalize upd H4 t1 (.tup [V.str (Str.ofString "r"), V.int (i : Int), V.int (d : Int), V.int (L : Int)]) = H5 at W10 hI10 hR10 e10 ⊢
    refine ⟨_, hR10.1, by rw [List.length_map]; exact sz_lt (by omega), rg ++ [(t1, i, d, L)], _, W10.app hR10.1 zc zl zlc zH, by omega, hI10.app hR10.1 (ne_of_none hI.1 nD), ⟨by rw [upd_same, List.map_append]; rfl, fun t ht => ?_⟩, by simp; omega⟩
    rcases List.mem_append.mp ht with ht | ht
    · have := hR10.2 t ht
      rw [upd_ne fun e => by rw [e, hR10.1] at this; cases this]; exact this
    · rw [List.mem_singleton.mp ht]
      show upd H5 D _ t1 = _
      rw [upd_ne fun e => by rw [e, hR10.1] at e10; cases e10]; exact e10
  obtain ⟨rg, k6, W7, hk6, hI7, hR7, hrl⟩ := hP
  clear zD hcc
  walk_at "go"
  refine WDict.g_putS W7.M.d (mdl (by simp)) ?_
  rw [show putK (madeD (n : Int) (1 + n + ct) lp da (.ref lc) [(.inr "inputs", .ref li)]) (.inr "regs") (.ref D) = madeD (n : Int) (1 + n + ct) lp da (.ref lc) [(.inr "inputs", .ref li), (.inr "regs", .ref D)] from rfl]
  have W8 := W7.put hB (ex' := [(.inr "inputs", .ref li), (.inr "regs", .ref D)]) W7.hc W7.nl
  have hI8 := hI7.put W7.M (o' := .dK (madeD (n : Int) (1 + n + ct) lp da (.ref lc) [(.inr "inputs", .ref li), (.inr "regs", .ref D)]))
  have hR8 := hR7.put W7.M (o' := .dK (madeD (n : Int) (1 + n + ct) lp da (.ref lc) [(.inr "inputs", .ref li), (.inr "regs", .ref D)]))
  generalize upd H2 m (.dK (madeD (n : Int) (1 + n + ct) lp da (.ref lc) [(.inr "inputs", .ref li), (.inr "regs", .ref D)])) = H3 at W8 hI8 hR8 ⊢
  clear W7 hI7 hR7
  walk_at "go"
  refine g_draw W8.B (by omega) (by decide) (by decide) fun d H4 hd k9 B9 => ?_
  have W9 := W8.draw k9 B9
  have hI9 := hI8.draw W8.B k9
  have hR9 := hR8.draw W8.B k9
  walk_at "go"
  have hcc : ∃ cells, H4 c = some (.lst cells) := by obtain ⟨cells, _, _, _, _, _, _, h, _⟩ := W9.B; exact ⟨_, h⟩
  obtain ⟨cells, hcc⟩ := hcc
  have zD : ∀ D, H4 D = none → D ≠ c ∧ D ≠ lp ∧ D ≠ lc ∧ H D = none := fun D nD => ⟨(ne_of_none hcc nD).symm, (ne_of_none W9.M.l nD).symm, (ne_of_none W9.hc nD).symm, W9.kp.free (W9.B.nb nD).1 nD⟩
  refine f_lcR (z := 1 + (d : Int)) (by omega) (by omega) (fun D2 i H5 => ∃ (ls : List Nat) (k7 : Nat), Wd c g m lp da lc (1 + n + ct) r' (n : Int) [(.inr "inputs", .ref li), (.inr "regs", .ref D)] cs k7 H H5 ∧ k7 ≤ k6 + 1 + 2 * i ∧ InsL H5 li ins ∧ RegL H5 D rg ∧ H5 D2 = some (.lst (nv ls)) ∧ ls.length = i) (fun D2 nD2 => ⟨[], _, W9.same (same_new nD2), by omega, hI9.same (same_new nD2), hR9.same (same_new nD2), upd_same, rfl⟩) (fun D2 i H5 nD2 hi hP => ?_) (fun D2 H5 nD2 hP => ?_)
  · obtain ⟨ls, k7, W10, hk7, hI10, hR10, hD2, hll⟩ := hP
    obtain ⟨zc, zl, zlc, zH⟩ := zD D2 nD2
    walk_at "go"
    refine ⟨rfl, ?_⟩
    walk_at "go"
    refine ⟨c, g, _, m, lp, da, 1 + n + ct, r', n, _, _, rfl, W10.B, by omega, W10.M, by omega, by omega, by omega, fun L H6 hL k11 B11 M11 => ?_⟩
    have W11 := W10.draw k11 B11
    have hI11 := hI10.draw W10.B k11
    have hR11 := hR10.draw W10.B k11
    have hD11 := W10.B.stay k11 hD2 nl_
    refine ⟨_, hD11, by rw [nv_len]; exact sz_lt (by omega), ls ++ [L], _, W11.app hD11 zc zl zlc zH, by omega, hI11.app hD11 (ne_of_none hI9.1 nD2), hR11.app hD11 (ne_of_none hR9.1 nD2), by rw [upd_same, nv_app_one], by simp; omega⟩
  obtain ⟨ls, k7, W10, hk7, hI10, hR10, hD2, hll⟩ := hP
  clear zD hcc
  walk_at "go"
  refine ⟨sz_le (n := 2) (by decide), fun t1 nt1 => ?_⟩
  have s1 := same_new (o := .tup [V.str (Str.ofString "y"), V.ref D2]) nt1
  have e1 : upd H5 t1 (.tup [V.str (Str.ofString "y"), V.ref D2]) t1 = some (.tup [V.str (Str.ofString "y"), V.ref D2]) := upd_same
  generalize upd H5 t1 (.tup [V.str (Str.ofString "y"), V.ref D2]) = H6 at s1 e1 ⊢
  walk_at "go"
  refine ⟨sz_le (n := 1) (by decide), fun l1 nl1 => ?_⟩
  have s2 := s1.trans (same_new (o := .lst [V.ref t1]) nl1)
  have e2 := same_new (o := .lst [V.ref t1]) nl1 _ _ e1
  have f2 : upd H6 l1 (.lst [V.ref t1]) l1 = some (.lst [V.ref t1]) := upd_same
  generalize upd H6 l1 (.lst [V.ref t1]) = H7 at s2 e2 f2 ⊢
  have W11 := W10.same s2
  have hI11 := hI10.same s2
  have hR11 := hR10.same s2
  have hD11 := s2 _ _ hD2
  walk_at "go"
  refine WDict.g_putS W11.M.d (mdl (by simp)) ?_
  rw [show putK (madeD (n : Int) (1 + n + ct) lp da (.ref lc) [(.inr "inputs", .ref li), (.inr "regs", .ref D)]) (.inr "outputs") (.ref l1) = madeD (n : Int) (1 + n + ct) lp da (.ref lc) (exD li D l1) from rfl]
  have W12 := W11.put hB (ex' := exD li D l1) W11.hc W11.nl
  have hI12 := hI11.put W11.M (o' := .dK (madeD (n : Int) (1 + n + ct) lp da (.ref lc) (exD li D l1)))
  have hR12 := hR11.put W11.M (o' := .dK (madeD (n : Int) (1 + n + ct) lp da (.ref lc) (exD li D l1)))
  have hD12 := W11.M.stay hD11 nl_ (o' := .dK (madeD (n : Int) (1 + n + ct) lp da (.ref lc) (exD li D l1)))
  have e12 := W11.M.stay e2 nt_ (o' := .dK (madeD (n : Int) (1 + n + ct) lp da (.ref lc) (exD li D l1)))
  have f12 := W11.M.stay f2 nl_ (o' := .dK (madeD (n : Int) (1 + n + ct) lp da (.ref lc) (exD li D l1)))
  generalize upd H7 m (.dK (madeD (n : Int) (1 + n + ct) lp da (.ref lc) (exD li D l1))) = H8 at W12 hI12 hR12 hD12 e12 f12 ⊢
  walk_at "go"
  refine q m lp da lc li D l1 (1 + n + ct) r' n cs ins rg [(t1, Str.ofString "y", D2, ls.map fun k : Nat => (k : Int))] _ H8 W12.kp W12.B (by omega) ⟨W12.M, W12.hc, hI12.1, hI12.2, hR12.1, hR12.2, f12, fun t ht => ?_⟩ ⟨by omega, by omega, by omega, by omega, hil, by omega, by simp, fun t ht => ?_, hiok, fun hw' => ?_⟩
  · rw [List.mem_singleton.mp ht]
    exact ⟨e12, by rw [← nv_int]; exact hD12⟩
  · rw [List.mem_singleton.mp ht]
    exact ⟨by show (List.map _ ls).length ≤ 3; rw [List.length_map]; omega, rfl⟩
  · have h1 := hw hw'
    obtain ⟨h2, h3⟩ := hwc hw'
    exact ⟨by omega, by omega, h3.mono hrr⟩
end K22
set_option Elab.async false
set_option linter.all false
set_option maxRecDepth 100000
set_option maxHeartbeats 4000000
namespace K22
open PySem PySem.Spec PyProof.Rows L2 WL
local macro_rules | `(tactic| walk_at "lk") => `(tactic| first
  | apply upd_same
  | assumption
  | (rw [upd_ne (by assumption)]; first | exact upd_same | assumption | (rw [upd_ne (by assumption)]; first | exact upd_same | assumption | (rw [upd_ne (by assumption)]; first | exact upd_same | assumption))))
local macro_rules | `(tactic| walk_at "go1") => `(tactic| first
  | (with_reducible refine g_seq ?_)
  | (with_reducible refine g_asg ?_)
  | (with_reducible refine g_name ?_)
  | (with_reducible refine g_sub ?_)
  | ((with_reducible refine' g_var ?gv ?_); (case gv => apply Eq.refl))
  | (with_reducible refine g_c ?_)
  | (with_reducible refine g_op ?_)
  | (with_reducible refine g_un ?_)
  | (with_reducible refine g_I0 ?_)
  | ((with_reducible refine g_I ?gc ?_); (case gc => first | assumption | decide | (show (0 : Int) < _; omega) | refine Or.inr ⟨by omega, by omega⟩ | refine Or.inl ⟨by omega, by omega⟩ | refine ⟨by omega, by omega⟩))
  | (with_reducible refine iteT ?_)
  | (with_reducible refine iteF ?_)
  | (with_reducible refine iteNT ?_)
  | (with_reducible refine iteNF ?_)
  | (with_reducible refine g_andV ?_)
  | (with_reducible refine g_orV ?_)
  | ((with_reducible refine' g_lenS (by assumption) ?_))
  | ((with_reducible refine' g_lenS (SqL.of (by walk_at "lk")) ?_))
  | (with_reducible refine g_U ?_)
  | ((with_reducible refine' g_eq ?gs ?_); (case gs => rfl))
  | ((with_reducible refine g_ne ?gs ?_); (case gs => rfl))
  | (with_reducible refine g_drop ?_)
  | (with_reducible refine g_ret ?_)
  | (with_reducible refine g_next ?_)
  | (with_reducible refine g_ifS ?_)
  | (with_reducible refine g_ifE ?_)
  | (with_reducible refine g_test ?_)
  | (with_reducible refine g_tb ?_)
  | (with_reducible refine g_bl ?_)
  | (with_reducible refine g_not ?_)
  | (with_reducible refine g_and ?_)
  | (with_reducible refine g_or ?_)
  | (with_reducible refine g_nil ?_)
  | (with_reducible refine g_cons ?_)
  | (with_reducible refine g_cb ?_)
  | (with_reducible refine g_call ?_)
  | (with_reducible refine g_int ?_)
  | (with_reducible refine g_two ?_)
  | ((with_reducible refine g_lenStr ?gz ?_); (case gz => first | assumption | exact sz_le (by omega)))
  | (with_reducible refine g_m1 ?_)
  | (with_reducible refine g_isS ?_)
  | (with_reducible refine g_nn ?_)
  | (with_reducible refine g_yes ?_)
  | (with_reducible refine g_for ?_)
  | (with_reducible refine g_ckw ?_)
  | (with_reducible refine g_chain ?_)
  | (with_reducible refine g_gcons ?_)
  | (with_reducible refine g_gnil ?_)
  | (with_reducible refine g_notV ?_)
  | (with_reducible refine g_iZip ?_)
  | (with_reducible refine g_lc ?_)
  | (with_reducible refine g_lc2 ?_)
  | (with_reducible refine g_iList ?_)
  | (with_reducible refine g_iRng1 ?_)
  | (with_reducible refine g_iRng2 ?_)
  | (with_reducible refine g_sl ?_)
  | (with_reducible refine g_noPart ?_)
  | (with_reducible refine g_part ?_)
  | (with_reducible refine g_ex1 ?_)
  | (with_reducible refine g_bm ?_)
  | ((with_reducible refine' g_tyL (by walk_at "lk") ?_))
  | ((with_reducible refine' g_aug ?gv ?_); (case gv => exact rfl))
  | (with_reducible refine g_ipI ?_)
  | (with_reducible refine g_turn ?_)
  | (with_reducible refine g_brk ?_)
  | (with_reducible refine g_cont ?_)
  | (with_reducible refine g_sign ?_)
  | (with_reducible refine g_lst ?_)
  | (with_reducible refine g_tup ?_)
  | ((with_reducible refine' g_ixL (by assumption) ?ga ?_); (case ga => assumption))
  | ((with_reducible refine' g_ixL (SqL.of (by walk_at "lk")) ?ga ?_); (case ga => first | exact rfl | assumption))
  | ((with_reducible refine' g_ixT (SqT.of (by walk_at "lk")) ?ga ?_); (case ga => first | exact rfl | assumption))
  | ((with_reducible refine' g_lenT (SqT.of (by walk_at "lk")) ?_))
  | ((with_reducible refine' g_isiS (b := true) ?ga ?_); (case ga => decide +kernel))
  | ((with_reducible refine' g_isiS (b := false) ?ga ?_); (case ga => decide +kernel))
  | ((with_reducible refine' g_isiI (b := true) ?ga ?_); (case ga => decide +kernel))
  | ((with_reducible refine' g_isiI (b := false) ?ga ?_); (case ga => decide +kernel))
  | ((with_reducible refine' g_setL2 ?ga ?gb ?_); (case ga => exact rfl); (case gb => exact rfl))
  | ((with_reducible refine' g_setL (by walk_at "lk") ?ga ?gb ?_); (case ga => exact rfl); (case gb => exact rfl)))
local macro_rules | `(tactic| walk_at "go") => `(tactic| ((repeat walk_at "go1"); try dsimp only [List.set, List.cons_append, List.nil_append]))
local macro_rules | `(tactic| walk_at "go1") => `(tactic| first
  | (with_reducible refine WOwn.g_fl ?_)
  | (with_reducible refine WOwn.g_sfl ?_)
  | (with_reducible refine WOwn.g_make ?_)
  | (with_reducible refine WOwn.g_meth ?_)
  | (with_reducible refine WOwn.g_sm ?_)
  | (with_reducible refine WOwn.g_cv ?_))
local macro_rules | `(tactic| walk_at "go1") => `(tactic| first
  | (with_reducible refine WDict.g_dget ?_)
  | (with_reducible refine WDict.g_din ?_)
  | (with_reducible refine WDict.g_dnotin ?_)
  | (with_reducible refine WDict.g_dput ?_)
  | (with_reducible refine WDict.g_dnew ?_)
  | (with_reducible refine WDict.g_dget2 ?_)
  | (with_reducible refine WDict.g_dsetd ?_)
  | (with_reducible refine WDict.g_disp ?_)
  | (with_reducible refine WDict.g_pair ?_)
  | (with_reducible refine WDict.g_pair0 ?_)
  | (with_reducible refine WDict.g_tru ?_))
local macro_rules | `(tactic| walk_at "go1") => `(tactic| first
  | (with_reducible refine g_iEnum ?_)
  | (with_reducible refine g_iTup ?_)
  | (with_reducible refine g_bm0 ?_)
  | ((with_reducible refine' g_gTup (SqT.of (by walk_at "lk")) ?gn ?_); (case gn => exact rfl)))
local macro_rules | `(tactic| walk_at "go1") => `(tactic| first
  | (with_reducible refine WDict.g_getS (by walk_at "lk") bd1 ?_)
  | (with_reducible refine WDict.g_getS (by walk_at "lk") bd2 ?_)
  | (with_reducible refine WDict.g_getS (by walk_at "lk") bd3 ?_)
  | (with_reducible refine WDict.g_getS (by walk_at "lk") bd4 ?_)
  | (with_reducible refine WDict.g_getS (by walk_at "lk") bd5 ?_)
  | (with_reducible refine WDict.g_getS (by walk_at "lk") bd6 ?_))
local macro_rules | `(tactic| walk_at "go1") => `(tactic| first
  | (with_reducible refine WDict.g_getS (by walk_at "lk") md2 ?_)
  | (with_reducible refine WDict.g_getS (by walk_at "lk") md3 ?_)
  | (with_reducible refine WDict.g_getS (by walk_at "lk") md4 ?_)
  | (with_reducible refine WDict.g_getS (by walk_at "lk") md5 ?_))
def spShuf : Sp := fun vs H Q _ => ∃ (c g l : Addr) (k : Nat) (ns : List Nat), vs = [.ref g, .ref l] ∧ Bag c g k H ∧ k ≤ 50000 ∧ H l = some (.lst (nv ns)) ∧ ns.length ≤ 1000 ∧
  ∀ (q : Addr) (ms : List Nat) (k' : Nat) H', Kp g H H' → Bag c g k' H' → k' ≤ k + ns.length → H q = none → H' q = some (.lst (nv ms)) → ms.Perm ns → Q (.ref q) H'
def spCut : Sp := fun vs H Q _ => ∃ (c g : Addr) (k : Nat) (m lp da : Addr) (b : Nat) (r : Pairs) (n : Int) (vc : V) (ex : List (Key × V)) (nd : Nat), vs = [.ref g, .ref m, .int (nd : Int)] ∧ Bag c g k H ∧ k ≤ 40000 ∧ MA m lp da b r n vc ex H ∧ 0 < b ∧ b ≤ 1000 ∧ r.length ≤ 1000 ∧ nd < b + r.length ∧
  ∀ (q : Addr) (ls : List Nat) (k' : Nat) H', Kp g H H' → Bag c g k' H' → k' ≤ k + 100 → H q = none → H' q = some (.lst (nv ls)) → ls.Nodup → (∀ x ∈ ls, x < b + r.length) → ls.length ≤ 60 → Q (.ref q) H'
theorem app_tm {α : Type} {l : List α} {d : Nat} {x : α} (h : l[d]? = some x) : l.Perm (l.take d ++ l.drop (d + 1) ++ [x]) := by
  have hd := (List.getElem?_eq_some_iff.mp h)
  obtain ⟨hl, e⟩ := hd
  have : l = l.take d ++ x :: l.drop (d + 1) := by rw [← e, List.getElem_cons_drop, List.take_append_drop]
  conv => lhs; rw [this]
  rw [List.append_assoc]
  exact List.Perm.append_left _ (List.perm_append_singleton _ _).symm
/-- the cut as it grows -/
structure CutS (c g m lp da l : Addr) (b : Nat) (r : Pairs) (n : Int) (vc : V) (ex : List (Key × V)) (k : Nat) (ls : List Nat) (H0 H : Hp) : Prop where
  kp : Kp g H0 H
  B : Bag c g k H
  M : MA m lp da b r n vc ex H
  hl : H l = some (.lst (nv ls))
  nd : ls.Nodup
  bd : ∀ x ∈ ls, x < b + r.length
section
variable {c g m lp da l l' : Addr} {b : Nat} {r : Pairs} {n : Int} {vc : V} {ex : List (Key × V)} {k k' : Nat} {ls ls' : List Nat} {H0 H H' : Hp}
theorem CutS.draw (s : CutS c g m lp da l b r n vc ex k ls H0 H) (kp : Kp g H H') (B' : Bag c g k' H') : CutS c g m lp da l b r n vc ex k' ls H0 H' :=
  ⟨s.kp.trans kp, B', s.M.kp kp s.B, s.B.stay kp s.hl nl_, s.nd, s.bd⟩
theorem CutS.same (s : CutS c g m lp da l b r n vc ex k ls H0 H) (h : Same H H') : CutS c g m lp da l b r n vc ex k ls H0 H' := ⟨s.kp.trans (Kp.same h), s.B.same h, s.M.same h, h _ _ s.hl, s.nd, s.bd⟩
theorem CutS.list (s : CutS c g m lp da l b r n vc ex k ls H0 H) (h : H l' = some (.lst (nv ls'))) (nd : ls'.Nodup) (bd : ∀ x ∈ ls', x < b + r.length) : CutS c g m lp da l' b r n vc ex k ls' H0 H := ⟨s.kp, s.B, s.M, h, nd, bd⟩
theorem nodup_one {x : Nat} (h : ls.Nodup) (hx : x ∉ ls) : (ls ++ [x]).Nodup := by
  rw [List.nodup_append]
  exact ⟨h, by simp, fun a ha d hd => by rw [List.mem_singleton.mp hd]; exact fun e => hx (e ▸ ha)⟩
theorem bd_one {x N : Nat} (h : ∀ y ∈ ls, y < N) (hx : x < N) : ∀ y ∈ ls ++ [x], y < N := fun y hy => by
  rcases List.mem_append.mp hy with hy | hy
  · exact h y hy
  · rw [List.mem_singleton.mp hy]; exact hx
theorem cut_sub (ls : List Nat) (d : Nat) : (ls.take d ++ ls.drop (d + 1)).Sublist ls := by
  conv => rhs; rw [← List.take_append_drop d ls]
  refine List.Sublist.append (List.Sublist.refl _) ?_
  rw [← List.drop_drop]
  exact List.drop_sublist _ _
end
variable {P : Program} {w : World} {K : PySem.W.Frag} {mg : Str → Option Value} {base : Heap} {dA : Nat → Addr}
theorem ok__law_shuffled (T : Txt K mg dA) (c__law_draw : C8.Cal P w K mg base 1 "_law_draw" spDraw []) {f : Addr} {fd : FuncData} (F : Fun K "_law_shuffled" "_law_shuffled" s__law_shuffled f fd) : FnOk P w K mg base CX0 2 f fd ["bag", "items"] spShuf := by
  refine F.ok sc__law_shuffled (fun vs H Q E h => ?_) (fun cdv A outer s H vs Q E hr h => ?_)
  · obtain ⟨c, g, l, k, ns, rfl, _⟩ := h
    rfl
  obtain ⟨c, g, l, k, ns, rfl, hB, hk, hl, hln, q⟩ := h
  refine ⟨_, (pss_cons (ps_set (i := 2) sc__law_shuffled.nd rfl (.inl rfl) (pe_callTy (kcall_list_of K) (by rfl) T.b_list (by decide +kernel) (pa_cons (pv 1) pa_nil)))
      (pss_cons (ps_set (i := 3) sc__law_shuffled.nd rfl (.inl rfl) (pe_lst pa_nil))
      (pss_cons (ps_for PassesOwn.never rfl (pi_range1 (by rfl) T.b_range (pa_cons (pe_callB (kcall_len_seq K) (by rfl) T.b_len (by decide +kernel) (pa_cons (pv 1) pa_nil)) pa_nil)) (pg_name (i := 4) sc__law_shuffled.nd rfl (.inl rfl)) (pss_cons (ps_set (i := 5) sc__law_shuffled.nd rfl (.inl rfl) (C8.pe_c c__law_draw hr (by decide) (by rfl) (pa_cons (pv 0) (pa_cons (pe_callB (kcall_len_seq K) (by rfl) T.b_len (by decide +kernel) (pa_cons (pv 2) pa_nil)) pa_nil))))
      (pss_cons (ps_expr (kpe_bm K PySem.F.plainAttrs_list PySem.F.slot_list_append PySem.F.type_list_append mt_append (pv 3) (pa_cons (pe_ix (kix_list K) (pv 2) (pv 5) (fun _ _ => rfl)) pa_nil)))
      (pss_one (ps_set (i := 2) sc__law_shuffled.nd rfl (.inl rfl) (pe_op op_cat (pe_slice (ksl_list K) (pv 2) po_none (po_some (pv 5))) (pe_slice (ksl_list K) (pv 2) (po_some (pe_op op_add (pv 5) pe_int)) po_none)))))))
      (pss_one (ps_ret (pv 3)))))), ?_⟩
  rw [show (L2.start ["bag", "items", "left", "out", "turn", "at"] [.ref g, .ref l] : L2.St) = [some (.ref g), some (.ref l), none, none, none, none] from rfl]
  try simp only [WL.cxK]
  walk_at "go"
  intro l1 nl1
  have s1 := same_new (o := .lst (nv ns)) nl1
  have e1 : upd H l1 (.lst (nv ns)) l1 = some (.lst (nv ns)) := upd_same
  generalize upd H l1 (.lst (nv ns)) = H1 at s1 e1 ⊢
  walk_at "go"
  refine ⟨Nat.zero_le _, fun q1 nq1 => ?_⟩
  have s2 := s1.trans (same_new (o := .lst []) nq1)
  have nq := s1.free nq1
  have e2 := same_new (o := .lst []) nq1 _ _ e1
  have f2 : upd H1 q1 (.lst []) q1 = some (.lst (nv [])) := upd_same
  have nlq : l1 ≠ q1 := ne_of_none e1 nq1
  generalize upd H1 q1 (.lst []) = H2 at s2 e2 f2 ⊢
  have hl2 := s2 _ _ hl
  walk_at "go"
  rw [nv_len]
  have nqg : q1 ≠ g := (hB.nb nq).1
  have nqc : q1 ≠ c := (hB.nb nq).2
  refine f_rng1 (z := (ns.length : Int)) (by omega) (by omega) (fun i σ' H' => ∃ (l1 : Addr) (lf out : List Nat) (y1 y2 : Option V), σ' = [some (.ref g), some (.ref l), some (.ref l1), some (.ref q1), y1, y2] ∧ Kp g H H' ∧ Bag c g (k + i) H' ∧ H' l1 = some (.lst (nv lf)) ∧ H' q1 = some (.lst (nv out)) ∧ l1 ≠ q1 ∧ lf.length = ns.length - i ∧ (out ++ lf).Perm ns)
    ⟨l1, ns, [], none, none, rfl, Kp.same s2, hB.same s2, e2, f2, nlq, rfl, by simp⟩ (fun i σ' H' hi hP => ?_) (fun σ' H' hP => ?_)
  · obtain ⟨l1, lf, out, y1, y2, rfl, kp, B1, hl1, hq1, hne, hlen, hperm⟩ := hP
    have hol := hperm.length_eq
    rw [List.length_append] at hol
    walk_at "go"
    rw [nv_len]
    refine g_draw B1 (by omega) (by omega) (by omega) fun d H3 hd k3 B3 => ?_
    have hl3 := B1.stay k3 hl1 nl_
    have hq3 := B1.stay k3 hq1 nl_
    have hdl : d < lf.length := by omega
    have hx : lf[d]? = some lf[d] := List.getElem?_eq_getElem hdl
    generalize lf[d] = x at hx
    walk_at "go"
    refine g_ixL (SqL.of hl3) (v := .int (x : Int)) (at_z (j := d) rfl (nv_at hx)) ?_
    walk_at "go"
    refine g_app hq3 (by rw [nv_len]; exact sz_lt (by omega)) ?_
    rw [← nv_app_one]
    have hq4 : upd H3 q1 (.lst (nv (out ++ [x]))) q1 = some (.lst (nv (out ++ [x]))) := upd_same
    have hl4 : upd H3 q1 (.lst (nv (out ++ [x]))) l1 = some (.lst (nv lf)) := by rw [upd_ne hne]; exact hl3
    have B4 := B3.put (o := .lst (nv (out ++ [x]))) nqg nqc
    have k4 : Kp g H (upd H3 q1 (.lst (nv (out ++ [x])))) := (kp.trans k3).mut nq
    generalize upd H3 q1 (.lst (nv (out ++ [x]))) = H4 at hq4 hl4 B4 k4 ⊢
    walk_at "go"
    refine g_slL (SqL.of hl4) (cut_to _ d) fun p1 np1 => ?_
    rw [nv_take]
    have s5 := same_new (o := .lst (nv (lf.take d))) np1
    have e5 : upd H4 p1 (.lst (nv (lf.take d))) p1 = some (.lst (nv (lf.take d))) := upd_same
    generalize upd H4 p1 (.lst (nv (lf.take d))) = H5 at s5 e5 ⊢
    have hl5 := s5 _ _ hl4
    walk_at "go"
    rw [show (d : Int) + 1 = ((d + 1 : Nat) : Int) by omega]
    refine g_slL (SqL.of hl5) (cut_from _ (d + 1)) fun p2 np2 => ?_
    rw [nv_drop]
    have s6 := s5.trans (same_new (o := .lst (nv (lf.drop (d + 1)))) np2)
    have e6 := same_new (o := .lst (nv (lf.drop (d + 1)))) np2 _ _ e5
    have f6 : upd H5 p2 (.lst (nv (lf.drop (d + 1)))) p2 = some (.lst (nv (lf.drop (d + 1)))) := upd_same
    generalize upd H5 p2 (.lst (nv (lf.drop (d + 1)))) = H6 at s6 e6 f6 ⊢
    refine g_cat e6 f6 (by rw [nv_len, nv_len, List.length_take, List.length_drop]; omega) fun p3 np3 => ?_
    rw [← nv_app]
    have s7 := s6.trans (same_new (o := .lst (nv (lf.take d ++ lf.drop (d + 1)))) np3)
    have hq6 := s6 _ _ hq4
    walk_at "go"
    refine ⟨p3, _, out ++ [x], _, _, rfl, k4.trans (Kp.same s7), B4.same s7, upd_same, s7 _ _ hq4, (ne_of_none hq6 np3).symm, by rw [List.length_append, List.length_take, List.length_drop]; omega, ?_⟩
    refine List.Perm.trans ?_ hperm
    rw [List.append_assoc]
    refine List.Perm.append_left _ ?_
    refine List.Perm.trans ?_ (app_tm hx).symm
    exact List.perm_append_comm
  · obtain ⟨l1, lf, out, y1, y2, rfl, kp, B1, hl1, hq1, hne, hlen, hperm⟩ := hP
    have hlf : lf = [] := List.length_eq_zero_iff.mp (by omega)
    subst hlf
    rw [List.append_nil] at hperm
    walk_at "go"
    exact q q1 out _ H' kp B1 (by omega) nq hq1 hperm
theorem ok__law_cut (T : Txt K mg dA) (c__law_shuffled : C8.Cal P w K mg base 2 "_law_shuffled" spShuf []) (c__law_draw : C8.Cal P w K mg base 1 "_law_draw" spDraw []) (c__law_size : C8.Cal P w K mg base 1 "_law_size" spSize []) {f : Addr} {fd : FuncData} (F : Fun K "_law_cut" "_law_cut" s__law_cut f fd) : FnOk P w K mg base CX0 3 f fd ["bag", "made", "node"] spCut := by
  refine F.ok sc__law_cut (fun vs H Q E h => ?_) (fun cdv A outer s H vs Q E hr h => ?_)
  · obtain ⟨c, g, k, m, lp, da, b, r, n, vc, ex, nd, rfl, _⟩ := h
    rfl
  obtain ⟨c, g, k, m, lp, da, b, r, n, vc, ex, nd, rfl, hB, hk, hM, hb, hb2, hr2, hnd, q⟩ := h
  refine ⟨_, (pss_cons (ps_set (i := 3) sc__law_cut.nd rfl (.inl rfl) (pe_lst (pa_cons (pv 2) pa_nil)))
      (Evl.pss_cut (ps_if (pt_cmpR op_eq (C8.pe_c c__law_draw hr (by decide) (by rfl) (pa_cons (pv 0) (pa_cons pe_int pa_nil))) pe_int (nomark _)) (pss_one (ps_set (i := 3) sc__law_cut.nd rfl (.inl rfl) (pe_lst pa_nil))) pss_nil)
      (Evl.pss_cut (ps_for PassesOwn.never rfl (pi_range1 (by rfl) T.b_range (pa_cons (C8.pe_c c__law_draw hr (by decide) (by rfl) (pa_cons (pv 0) (pa_cons pe_int pa_nil))) pa_nil)) (pg_name (i := 4) sc__law_cut.nd rfl (.inl rfl)) (pss_cons (ps_set (i := 5) sc__law_cut.nd rfl (.inr rfl) (pe_lc (own := [("below", 10)]) rfl sc__law_cut.nd (kpi_list K (pv 3)) (blkOk_by (own := [("below", 10)]) (N := ["bag", "made", "node", "leaves", "turn", "inner", "at", "pair", "part", "extra", "below"]) (sc := defScope s__law_cut) (by decide +kernel)) (fun _ _ _ _ _ => (pg_name (i := 10) sc__law_cut.nd rfl (.inl rfl))) (fun _ _ _ _ _ => (pts_one (pt_cmpR op_ge (pv 10) (pe_dget (hu_of hr) (pv 1) pe_str (fun _ _ => rfl)) (nomark _)))) (fun _ _ _ _ _ => (pv 10))))
      (pss_cons (ps_set (i := 6) sc__law_cut.nd rfl (.inr rfl) (C8.pe_c c__law_draw hr (by decide) (by rfl) (pa_cons (pv 0) (pa_cons (pe_callB (call_max2 rfl) (by rfl) T.b_max (by decide +kernel) (pa_cons pe_int (pa_cons (pe_callB (kcall_len_seq K) (by rfl) T.b_len (by decide +kernel) (pa_cons (pv 5) pa_nil)) pa_nil))) pa_nil))))
      (pss_one (ps_if (pt_cmpR op_gt (pe_callB (kcall_len_seq K) (by rfl) T.b_len (by decide +kernel) (pa_cons (pv 5) pa_nil)) pe_int (nomark _)) (pss_cons (ps_set (i := 7) sc__law_cut.nd rfl (.inl rfl) (pe_ix (kix_list K) (pe_dget (hu_of hr) (pv 1) pe_str (fun _ _ => rfl)) (pe_op op_sub (pe_ix (kix_list K) (pv 5) (pv 6) (fun _ _ => rfl)) (pe_dget (hu_of hr) (pv 1) pe_str (fun _ _ => rfl))) (fun _ _ => rfl)))
      (pss_cons (ps_setLc (i := 3) (own := [("below", 10)]) rfl sc__law_cut.nd rfl rfl (sw_true rfl rfl rfl (by decide +kernel)) (kpi_list K (pv 3)) (blkOk_by (own := [("below", 10)]) (N := ["bag", "made", "node", "leaves", "turn", "inner", "at", "pair", "part", "extra", "below"]) (sc := defScope s__law_cut) (by decide +kernel)) (fun _ _ _ _ _ => (pg_name (i := 10) sc__law_cut.nd rfl (.inl rfl))) (fun _ _ _ _ _ => (pts_one (pt_cmpR op_ne (pv 10) (pe_ix (kix_list K) (pv 5) (pv 6) (fun _ _ => rfl)) (nomark _)))) (fun _ _ _ _ _ => (pv 10)))
      (pss_one (ps_for PassesOwn.never rfl (kpi_tup K (pv 7)) (pg_name (i := 8) sc__law_cut.nd rfl (.inl rfl)) (pss_one (ps_if (pt_cmpR (kop_notIn_seq K) (pe_op op_fdiv (pv 8) pe_int) (pv 3) rfl) (pss_one (ps_set (i := 3) sc__law_cut.nd rfl (.inl rfl) (pe_op op_cat (pv 3) (pe_lst (pa_cons (pe_op op_fdiv (pv 8) pe_int) pa_nil))))) pss_nil)))))) pss_nil)))))
      (Evl.pss_cut (ps_if (pt_cmpR op_eq (C8.pe_c c__law_draw hr (by decide) (by rfl) (pa_cons (pv 0) (pa_cons pe_int pa_nil))) pe_int (nomark _)) (pss_cons (ps_set (i := 6) sc__law_cut.nd rfl (.inr rfl) (C8.pe_c c__law_draw hr (by decide) (by rfl) (pa_cons (pv 0) (pa_cons (pe_callB (call_max2 rfl) (by rfl) T.b_max (by decide +kernel) (pa_cons pe_int (pa_cons (pe_callB (kcall_len_seq K) (by rfl) T.b_len (by decide +kernel) (pa_cons (pv 3) pa_nil)) pa_nil))) pa_nil))))
      (pss_one (ps_set (i := 3) sc__law_cut.nd rfl (.inl rfl) (pe_op op_cat (pe_slice (ksl_list K) (pv 3) po_none (po_some (pv 6))) (pe_slice (ksl_list K) (pv 3) (po_some (pe_op op_add (pv 6) pe_int)) po_none))))) pss_nil)
      (Evl.pss_cut (ps_for PassesOwn.never rfl (pi_range1 (by rfl) T.b_range (pa_cons (C8.pe_c c__law_draw hr (by decide) (by rfl) (pa_cons (pv 0) (pa_cons pe_int pa_nil))) pa_nil)) (pg_name (i := 4) sc__law_cut.nd rfl (.inl rfl)) (pss_cons (ps_set (i := 9) sc__law_cut.nd rfl (.inl rfl) (C8.pe_c c__law_draw hr (by decide) (by rfl) (pa_cons (pv 0) (pa_cons (C8.pe_c c__law_size hr (by decide) (by rfl) (pa_cons (pv 1) pa_nil)) pa_nil))))
      (pss_one (ps_if (pt_cmpR (kop_notIn_seq K) (pv 9) (pv 3) rfl) (pss_one (ps_set (i := 3) sc__law_cut.nd rfl (.inl rfl) (pe_op op_cat (pv 3) (pe_lst (pa_cons (pv 9) pa_nil))))) pss_nil))))
      (pss_one (ps_ret (C8.pe_c c__law_shuffled hr (by decide) (by rfl) (pa_cons (pv 0) (pa_cons (pv 3) pa_nil)))))))))), ?_⟩
  rw [show (L2.start ["bag", "made", "node", "leaves", "turn", "inner", "at", "pair", "part", "extra", "below"] [.ref g, .ref m, .int (nd : Int)] : L2.St) = [some (.ref g), some (.ref m), some (.int (nd : Int)), none, none, none, none, none, none, none, none] from rfl]
  try simp only [WL.cxK]
  walk_at "go"
  refine ⟨sz_le (n := 1) (by decide), fun l0 nl0 => ?_⟩
  have S0 : CutS c g m lp da l0 b r n vc ex k [nd] H (upd H l0 (.lst [V.int (nd : Int)])) := ⟨Kp.same (same_new nl0), hB.same (same_new nl0), hM.same (same_new nl0), upd_same, by simp, fun x hx => by rw [List.mem_singleton.mp hx]; exact hnd⟩
  generalize upd H l0 (.lst [V.int (nd : Int)]) = H1 at S0 ⊢
  walk_at "go"
  refine ⟨fun σ' H' => ∃ (l : Addr) (ls : List Nat), σ' = [some (.ref g), some (.ref m), some (.int (nd : Int)), some (.ref l), none, none, none, none, none, none, none] ∧ CutS c g m lp da l b r n vc ex (k + 1) ls H H' ∧ ls.length ≤ 1, ?_, fun σ' H' hW => ?_⟩
  · walk_at "go"
    refine g_draw S0.B (by omega) (by decide) (by decide) fun d H2 hd k2 B2 => ?_
    have S2 := S0.draw k2 B2
    walk_at "go"
    refine g_iteI (fun e => ?_) (fun e => ?_)
    · walk_at "go"
      refine ⟨Nat.zero_le _, fun l1 nl1 => ?_⟩
      walk_at "go"
      exact ⟨l1, [], rfl, (S2.same (same_new nl1)).list upd_same List.nodup_nil (fun _ h => by cases h), by decide⟩
    · walk_at "go"
      exact ⟨l0, [nd], rfl, S2, by simp⟩
  clear S0
  obtain ⟨l, ls, rfl, S1, hls⟩ := hW
  walk_at "go"
  refine ⟨fun σ' H' => ∃ (l : Addr) (ls : List Nat) (k2 : Nat) (y1 y2 y3 y4 y5 : Option V), σ' = [some (.ref g), some (.ref m), some (.int (nd : Int)), some (.ref l), y1, y2, y3, y4, y5, none, none] ∧ CutS c g m lp da l b r n vc ex k2 ls H H' ∧ k2 ≤ k + 12 ∧ ls.length ≤ 21, ?_, fun σ' H' hW => ?_⟩
  · walk_at "go"
    refine g_draw S1.B (by omega) (by decide) (by decide) fun tn H2 htn k2 B2 => ?_
    have S2 := S1.draw k2 B2
    walk_at "go"
    refine f_rng1 (z := (tn : Int)) (by omega) (by omega) (fun i σ' H' => ∃ (l : Addr) (ls : List Nat) (k2 : Nat) (y1 y2 y3 y4 y5 : Option V), σ' = [some (.ref g), some (.ref m), some (.int (nd : Int)), some (.ref l), y1, y2, y3, y4, y5, none, none] ∧ CutS c g m lp da l b r n vc ex k2 ls H H' ∧ k2 ≤ k + 2 + i ∧ ls.length ≤ 1 + 2 * i)
      ⟨l, ls, _, none, none, none, none, none, rfl, S2, by omega, by omega⟩ (fun i σ' H' hi hP => ?_) (fun σ' H' hP => ?_)
    · obtain ⟨l, ls, k2, y1, y2, y3, y4, y5, rfl, S3, hk3, hls3⟩ := hP
      have hmd := S3.M.d
      walk_at "go"
      refine f_lcFiltN (SqL.of S3.hl) (by omega) (fun n => decide (b ≤ n)) (fun _ => rfl) (fun _ => rfl) (fun i n H4 Q' hn s5 hq => ?_) fun l2 nl2 => ?_
      · have hmd4 := s5 _ _ hmd
        walk_at "go"
        rw [show decide ((b : Int) ≤ (n : Int)) = decide (b ≤ n) by simp]
        exact hq
      have S4 := S3.same (same_new (o := .lst (nv (ls.filter fun n => decide (b ≤ n)))) nl2)
      have e4 : upd H' l2 (.lst (nv (ls.filter fun n => decide (b ≤ n)))) l2 = some (.lst (nv (ls.filter fun n => decide (b ≤ n)))) := upd_same
      have hin : ∀ x ∈ ls.filter fun n => decide (b ≤ n), b ≤ x ∧ x < b + r.length := fun x hx => by
        have h1 := List.mem_filter.mp hx
        exact ⟨by simpa using h1.2, S3.bd x h1.1⟩
      have hil : (ls.filter fun n => decide (b ≤ n)).length ≤ ls.length := List.length_filter_le _ _
      generalize ls.filter (fun n => decide (b ≤ n)) = inn at S4 e4 hin hil ⊢
      generalize upd H' l2 (.lst (nv inn)) = H4 at S4 e4 ⊢
      walk_at "go"
      rw [nv_len]
      have hmx : (if (inn.length : Int) > 1 then (inn.length : Int) else 1) = ((max 1 inn.length : Nat) : Int) := by split <;> omega
      rw [hmx]
      refine g_draw S4.B (by omega) (by omega) (by omega) fun d H5 hd k5 B5 => ?_
      have S5 := S4.draw k5 B5
      have e5 := S4.B.stay k5 e4 nl_
      walk_at "go"
      rw [nv_len]
      refine g_ite (fun e => ?_) (fun e => ?_)
      · have hdl : d < inn.length := by omega
        have hx : inn[d]? = some inn[d] := List.getElem?_eq_getElem hdl
        have hxb := hin _ (List.getElem_mem hdl)
        generalize inn[d] = x at hx hxb
        have hu : r[x - b]? = some (r[x - b]'(by omega)) := List.getElem?_eq_getElem (by omega)
        generalize r[x - b]'(by omega) = u at hu
        have hup := S5.M.p u (List.mem_of_getElem? hu)
        have hlp := S5.M.l
        have hmd5 := S5.M.d
        have hkd := S5.M.ok (x - b) u.2 (by rw [List.getElem?_map, hu]; rfl)
        walk_at "go"
        refine g_ixL (SqL.of e5) (v := .int (x : Int)) (at_z (j := d) rfl (nv_at hx)) ?_
        walk_at "go"
        refine g_ixL (SqL.of hlp) (v := .ref u.1) (at_z (j := x - b) (by omega) (by rw [List.getElem?_map, hu]; rfl)) ?_
        walk_at "go"
        refine f_lcFiltN (SqL.of S5.hl) (by omega) (fun n => !decide (n = x)) (fun _ => rfl) (fun _ => rfl) (fun i n H6 Q' hn s6 hq => ?_) fun l3 nl3 => ?_
        · have e6 := s6 _ _ e5
          walk_at "go"
          refine g_ixL (SqL.of e6) (v := .int (x : Int)) (at_z (j := d) rfl (nv_at hx)) ?_
          walk_at "go"
          rw [WL.dec_int]
          exact hq
        have S6 := (S5.same (same_new (o := .lst (nv (ls.filter fun n => !decide (n = x)))) nl3)).list (l' := l3) (ls' := ls.filter fun n => !decide (n = x)) upd_same (S5.nd.sublist List.filter_sublist) (fun y hy => S5.bd y (List.mem_filter.mp hy).1)
        have hfl : (ls.filter fun n => !decide (n = x)).length ≤ ls.length := List.length_filter_le _ _
        have hup6 := same_new (o := .lst (nv (ls.filter fun n => !decide (n = x)))) nl3 _ _ hup
        generalize ls.filter (fun n => !decide (n = x)) = ls6 at S6 hup6 hfl ⊢
        generalize upd H5 l3 (.lst (nv ls6)) = H6 at S6 hup6 ⊢
        walk_at "go"
        refine f_tup (SqT.of hup6) (fun j σ' H' => ∃ (l : Addr) (ls : List Nat) (y5 : Option V), σ' = [some (.ref g), some (.ref m), some (.int (nd : Int)), some (.ref l), some (.int (i : Int)), some (.ref l2), some (.int (d : Int)), some (.ref u.1), y5, none, none] ∧ CutS c g m lp da l b r n vc ex (k2 + 1) ls H H' ∧ H' u.1 = some (.tup [V.int (u.2.1 : Int), V.int (u.2.2 : Int)]) ∧ ls.length ≤ ls6.length + j)
          ⟨l3, ls6, _, rfl, S6, hup6, by omega⟩ (fun j σ' H' _ hP => ?_) (fun j y σ' H' hy hP => ?_) (fun σ' H' hP => ?_)
        · obtain ⟨_, _, _, _, _, h, _⟩ := hP
          exact SqT.of h
        · obtain ⟨l, ls, y5, rfl, S7, hup7, hls7⟩ := hP
          obtain ⟨z, rfl, hz⟩ : ∃ z : Nat, y = .int (z : Int) ∧ z / 2 < b + r.length := by
            match j, hy with
            | 0, h => exact ⟨u.2.1, (Option.some.inj h).symm, by omega⟩
            | 1, h => exact ⟨u.2.2, (Option.some.inj h).symm, by omega⟩
            | j + 2, h => simp at h
          have hj : j < 2 := lt_at hy
          have hl7 := S7.hl
          walk_at "go"
          rw [nat_half]
          refine g_ninN (SqL.of hl7) ?_
          walk_at "go"
          refine g_iteN (fun e => ?_) (fun e => ?_)
          · walk_at "go"
            rw [nat_half]
            refine ⟨sz_le (n := 1) (by decide), fun p1 np1 => ?_⟩
            have s8 := same_new (o := .lst [V.int ((z / 2 : Nat) : Int)]) np1
            have e8 : upd H' p1 (.lst [V.int ((z / 2 : Nat) : Int)]) p1 = some (.lst (nv [z / 2])) := upd_same
            generalize upd H' p1 (.lst [V.int ((z / 2 : Nat) : Int)]) = H8 at s8 e8 ⊢
            refine g_cat (s8 _ _ hl7) e8 (by rw [nv_len, nv_len]; simp; omega) fun p2 np2 => ?_
            rw [← nv_app]
            have s9 := s8.trans (same_new (o := .lst (nv (ls ++ [z / 2]))) np2)
            walk_at "go"
            exact ⟨p2, _, _, rfl, (S7.same s9).list upd_same (nodup_one S7.nd e) (bd_one S7.bd hz), s9 _ _ hup7, by simp; omega⟩
          · walk_at "go"
            exact ⟨l, ls, _, rfl, S7, hup7, by omega⟩
        · obtain ⟨l, ls, y5, rfl, S7, hup7, hls7⟩ := hP
          exact ⟨l, ls, _, _, _, _, _, _, rfl, S7, by omega, by simp at hls7; omega⟩
      · walk_at "go"
        exact ⟨l, ls, _, _, _, _, _, _, rfl, S5, by omega, by omega⟩
    · obtain ⟨l, ls, k2, y1, y2, y3, y4, y5, rfl, S3, hk3, hls3⟩ := hP
      exact ⟨l, ls, k2, y1, y2, y3, y4, y5, rfl, S3, by omega, by omega⟩
  clear S1
  obtain ⟨l, ls, k2, y1, y2, y3, y4, y5, rfl, S1, hk2, hls2⟩ := hW
  walk_at "go"
  refine ⟨fun σ' H' => ∃ (l : Addr) (ls : List Nat) (k2 : Nat) (y3 : Option V), σ' = [some (.ref g), some (.ref m), some (.int (nd : Int)), some (.ref l), y1, y2, y3, y4, y5, none, none] ∧ CutS c g m lp da l b r n vc ex k2 ls H H' ∧ k2 ≤ k + 14 ∧ ls.length ≤ 21, ?_, fun σ' H' hW => ?_⟩
  · walk_at "go"
    refine g_draw S1.B (by omega) (by decide) (by decide) fun d H2 hd k3 B2 => ?_
    have S2 := S1.draw k3 B2
    walk_at "go"
    refine g_iteI (fun e => ?_) (fun e => ?_)
    · have hl2 := S2.hl
      walk_at "go"
      rw [nv_len]
      have hmx : (if (ls.length : Int) > 1 then (ls.length : Int) else 1) = ((max 1 ls.length : Nat) : Int) := by split <;> omega
      rw [hmx]
      refine g_draw S2.B (by omega) (by omega) (by omega) fun d2 H3 hd2 k4 B3 => ?_
      have S3 := S2.draw k4 B3
      walk_at "go"
      refine g_slL (SqL.of S3.hl) (cut_to _ d2) fun p1 np1 => ?_
      rw [nv_take]
      have s4 := same_new (o := .lst (nv (ls.take d2))) np1
      have e4 : upd H3 p1 (.lst (nv (ls.take d2))) p1 = some (.lst (nv (ls.take d2))) := upd_same
      generalize upd H3 p1 (.lst (nv (ls.take d2))) = H4 at s4 e4 ⊢
      walk_at "go"
      rw [show (d2 : Int) + 1 = ((d2 + 1 : Nat) : Int) by omega]
      refine g_slL (SqL.of (s4 _ _ S3.hl)) (cut_from _ (d2 + 1)) fun p2 np2 => ?_
      rw [nv_drop]
      have s5 := s4.trans (same_new (o := .lst (nv (ls.drop (d2 + 1)))) np2)
      have e5 := same_new (o := .lst (nv (ls.drop (d2 + 1)))) np2 _ _ e4
      have f5 : upd H4 p2 (.lst (nv (ls.drop (d2 + 1)))) p2 = some (.lst (nv (ls.drop (d2 + 1)))) := upd_same
      generalize upd H4 p2 (.lst (nv (ls.drop (d2 + 1)))) = H5 at s5 e5 f5 ⊢
      refine g_cat e5 f5 (by rw [nv_len, nv_len, List.length_take, List.length_drop]; omega) fun p3 np3 => ?_
      rw [← nv_app]
      have s6 := s5.trans (same_new (o := .lst (nv (ls.take d2 ++ ls.drop (d2 + 1)))) np3)
      have hsub := cut_sub ls d2
      walk_at "go"
      exact ⟨p3, _, _, _, rfl, (S3.same s6).list upd_same (S3.nd.sublist hsub) (fun y hy => S3.bd y (hsub.subset hy)), by omega, by have := hsub.length_le; omega⟩
    · walk_at "go"
      exact ⟨l, ls, _, _, rfl, S2, by omega, by omega⟩
  clear S1
  obtain ⟨l, ls, k2, y3, rfl, S1, hk2, hls2⟩ := hW
  walk_at "go"
  refine ⟨fun σ' H' => ∃ (l : Addr) (ls : List Nat) (k2 : Nat) (y1 y6 : Option V), σ' = [some (.ref g), some (.ref m), some (.int (nd : Int)), some (.ref l), y1, y2, y3, y4, y5, y6, none] ∧ CutS c g m lp da l b r n vc ex k2 ls H H' ∧ k2 ≤ k + 18 ∧ ls.length ≤ 24, ?_, fun σ' H' hW => ?_⟩
  · walk_at "go"
    refine g_draw S1.B (by omega) (by decide) (by decide) fun tn H2 htn k3 B2 => ?_
    have S2 := S1.draw k3 B2
    walk_at "go"
    refine f_rng1 (z := (tn : Int)) (by omega) (by omega) (fun i σ' H' => ∃ (l : Addr) (ls : List Nat) (k2 : Nat) (y1 y6 : Option V), σ' = [some (.ref g), some (.ref m), some (.int (nd : Int)), some (.ref l), y1, y2, y3, y4, y5, y6, none] ∧ CutS c g m lp da l b r n vc ex k2 ls H H' ∧ k2 ≤ k + 15 + i ∧ ls.length ≤ 21 + i)
      ⟨l, ls, _, y1, none, rfl, S2, by omega, by omega⟩ (fun i σ' H' hi hP => ?_) (fun σ' H' hP => ?_)
    · obtain ⟨l, ls, k4, y1, y6, rfl, S3, hk3, hls3⟩ := hP
      walk_at "go"
      refine ⟨m, lp, da, b, r, n, vc, ex, rfl, S3.M, ?_⟩
      walk_at "go"
      refine g_draw S3.B (by omega) (by omega) (by omega) fun d2 H3 hd2 k5 B3 => ?_
      have S4 := S3.draw k5 B3
      have hl4 := S4.hl
      walk_at "go"
      refine g_ninN (SqL.of hl4) ?_
      walk_at "go"
      refine g_iteN (fun e => ?_) (fun e => ?_)
      · walk_at "go"
        refine ⟨sz_le (n := 1) (by decide), fun p1 np1 => ?_⟩
        have s8 := same_new (o := .lst [V.int (d2 : Int)]) np1
        have e8 : upd H3 p1 (.lst [V.int (d2 : Int)]) p1 = some (.lst (nv [d2])) := upd_same
        generalize upd H3 p1 (.lst [V.int (d2 : Int)]) = H8 at s8 e8 ⊢
        refine g_cat (s8 _ _ hl4) e8 (by rw [nv_len, nv_len]; simp; omega) fun p2 np2 => ?_
        rw [← nv_app]
        have s9 := s8.trans (same_new (o := .lst (nv (ls ++ [d2]))) np2)
        walk_at "go"
        exact ⟨p2, _, _, _, _, rfl, (S4.same s9).list upd_same (nodup_one S4.nd e) (bd_one S4.bd (by omega)), by omega, by simp; omega⟩
      · walk_at "go"
        exact ⟨l, ls, _, _, _, rfl, S4, by omega, by omega⟩
    · obtain ⟨l, ls, k4, y1, y6, rfl, S3, hk3, hls3⟩ := hP
      exact ⟨l, ls, k4, y1, y6, rfl, S3, by omega, by omega⟩
  clear S1
  obtain ⟨l, ls, k2, y1, y6, rfl, S1, hk2, hls2⟩ := hW
  walk_at "go"
  refine ⟨c, g, l, k2, ls, rfl, S1.B, by omega, S1.hl, by omega, fun qa ms k3 H3 kp3 B3 hk3 nqa hqa hperm => ?_⟩
  exact q qa ms k3 H3 (S1.kp.trans kp3) B3 (by omega) (S1.kp.free (S1.B.nb nqa).1 nqa) hqa (hperm.nodup_iff.mpr S1.nd) (fun x hx => S1.bd x (hperm.mem_iff.mp hx)) (by have := hperm.length_eq; omega)
end K22
set_option Elab.async false
set_option linter.all false
set_option maxRecDepth 100000
set_option maxHeartbeats 4000000
namespace K22
open PySem PySem.Spec PyProof.Rows L2 WL
local macro_rules | `(tactic| walk_at "lk") => `(tactic| first
  | apply upd_same
  | assumption
  | (rw [upd_ne (by assumption)]; first | exact upd_same | assumption | (rw [upd_ne (by assumption)]; first | exact upd_same | assumption | (rw [upd_ne (by assumption)]; first | exact upd_same | assumption))))
local macro_rules | `(tactic| walk_at "go1") => `(tactic| first
  | (with_reducible refine g_seq ?_)
  | (with_reducible refine g_asg ?_)
  | (with_reducible refine g_name ?_)
  | (with_reducible refine g_sub ?_)
  | ((with_reducible refine' g_var ?gv ?_); (case gv => apply Eq.refl))
  | (with_reducible refine g_c ?_)
  | (with_reducible refine g_op ?_)
  | (with_reducible refine g_un ?_)
  | (with_reducible refine g_I0 ?_)
  | ((with_reducible refine g_I ?gc ?_); (case gc => first | assumption | decide | (show (0 : Int) < _; omega) | refine Or.inr ⟨by omega, by omega⟩ | refine Or.inl ⟨by omega, by omega⟩ | refine ⟨by omega, by omega⟩))
  | (with_reducible refine iteT ?_)
  | (with_reducible refine iteF ?_)
  | (with_reducible refine iteNT ?_)
  | (with_reducible refine iteNF ?_)
  | (with_reducible refine g_andV ?_)
  | (with_reducible refine g_orV ?_)
  | ((with_reducible refine' g_lenS (by assumption) ?_))
  | ((with_reducible refine' g_lenS (SqL.of (by walk_at "lk")) ?_))
  | (with_reducible refine g_U ?_)
  | ((with_reducible refine' g_eq ?gs ?_); (case gs => rfl))
  | ((with_reducible refine g_ne ?gs ?_); (case gs => rfl))
  | (with_reducible refine g_drop ?_)
  | (with_reducible refine g_ret ?_)
  | (with_reducible refine g_next ?_)
  | (with_reducible refine g_ifS ?_)
  | (with_reducible refine g_ifE ?_)
  | (with_reducible refine g_test ?_)
  | (with_reducible refine g_tb ?_)
  | (with_reducible refine g_bl ?_)
  | (with_reducible refine g_not ?_)
  | (with_reducible refine g_and ?_)
  | (with_reducible refine g_or ?_)
  | (with_reducible refine g_nil ?_)
  | (with_reducible refine g_cons ?_)
  | (with_reducible refine g_cb ?_)
  | (with_reducible refine g_call ?_)
  | (with_reducible refine g_int ?_)
  | (with_reducible refine g_two ?_)
  | ((with_reducible refine g_lenStr ?gz ?_); (case gz => first | assumption | exact sz_le (by omega)))
  | (with_reducible refine g_m1 ?_)
  | (with_reducible refine g_isS ?_)
  | (with_reducible refine g_nn ?_)
  | (with_reducible refine g_yes ?_)
  | (with_reducible refine g_for ?_)
  | (with_reducible refine g_ckw ?_)
  | (with_reducible refine g_chain ?_)
  | (with_reducible refine g_gcons ?_)
  | (with_reducible refine g_gnil ?_)
  | (with_reducible refine g_notV ?_)
  | (with_reducible refine g_iZip ?_)
  | (with_reducible refine g_lc ?_)
  | (with_reducible refine g_lc2 ?_)
  | (with_reducible refine g_iList ?_)
  | (with_reducible refine g_iRng1 ?_)
  | (with_reducible refine g_iRng2 ?_)
  | (with_reducible refine g_sl ?_)
  | (with_reducible refine g_noPart ?_)
  | (with_reducible refine g_part ?_)
  | (with_reducible refine g_ex1 ?_)
  | (with_reducible refine g_bm ?_)
  | ((with_reducible refine' g_tyL (by walk_at "lk") ?_))
  | ((with_reducible refine' g_aug ?gv ?_); (case gv => exact rfl))
  | (with_reducible refine g_ipI ?_)
  | (with_reducible refine g_turn ?_)
  | (with_reducible refine g_brk ?_)
  | (with_reducible refine g_cont ?_)
  | (with_reducible refine g_sign ?_)
  | (with_reducible refine g_lst ?_)
  | (with_reducible refine g_tup ?_)
  | ((with_reducible refine' g_ixL (by assumption) ?ga ?_); (case ga => assumption))
  | ((with_reducible refine' g_ixL (SqL.of (by walk_at "lk")) ?ga ?_); (case ga => first | exact rfl | assumption))
  | ((with_reducible refine' g_ixT (SqT.of (by walk_at "lk")) ?ga ?_); (case ga => first | exact rfl | assumption))
  | ((with_reducible refine' g_lenT (SqT.of (by walk_at "lk")) ?_))
  | ((with_reducible refine' g_isiS (b := true) ?ga ?_); (case ga => decide +kernel))
  | ((with_reducible refine' g_isiS (b := false) ?ga ?_); (case ga => decide +kernel))
  | ((with_reducible refine' g_isiI (b := true) ?ga ?_); (case ga => decide +kernel))
  | ((with_reducible refine' g_isiI (b := false) ?ga ?_); (case ga => decide +kernel))
  | ((with_reducible refine' g_setL2 ?ga ?gb ?_); (case ga => exact rfl); (case gb => exact rfl))
  | ((with_reducible refine' g_setL (by walk_at "lk") ?ga ?gb ?_); (case ga => exact rfl); (case gb => exact rfl)))
local macro_rules | `(tactic| walk_at "go") => `(tactic| ((repeat walk_at "go1"); try dsimp only [List.set, List.cons_append, List.nil_append]))
local macro_rules | `(tactic| walk_at "go1") => `(tactic| first
  | (with_reducible refine WOwn.g_fl ?_)
  | (with_reducible refine WOwn.g_sfl ?_)
  | (with_reducible refine WOwn.g_make ?_)
  | (with_reducible refine WOwn.g_meth ?_)
  | (with_reducible refine WOwn.g_sm ?_)
  | (with_reducible refine WOwn.g_cv ?_))
local macro_rules | `(tactic| walk_at "go1") => `(tactic| first
  | (with_reducible refine WDict.g_dget ?_)
  | (with_reducible refine WDict.g_din ?_)
  | (with_reducible refine WDict.g_dnotin ?_)
  | (with_reducible refine WDict.g_dput ?_)
  | (with_reducible refine WDict.g_dnew ?_)
  | (with_reducible refine WDict.g_dget2 ?_)
  | (with_reducible refine WDict.g_dsetd ?_)
  | (with_reducible refine WDict.g_disp ?_)
  | (with_reducible refine WDict.g_pair ?_)
  | (with_reducible refine WDict.g_pair0 ?_)
  | (with_reducible refine WDict.g_tru ?_))
local macro_rules | `(tactic| walk_at "go1") => `(tactic| first
  | (with_reducible refine g_iEnum ?_)
  | (with_reducible refine g_iTup ?_)
  | (with_reducible refine g_bm0 ?_)
  | ((with_reducible refine' g_gTup (SqT.of (by walk_at "lk")) ?gn ?_); (case gn => exact rfl)))
local macro_rules | `(tactic| walk_at "go1") => `(tactic| first
  | (with_reducible refine WDict.g_getS (by walk_at "lk") bd1 ?_)
  | (with_reducible refine WDict.g_getS (by walk_at "lk") bd2 ?_)
  | (with_reducible refine WDict.g_getS (by walk_at "lk") bd3 ?_)
  | (with_reducible refine WDict.g_getS (by walk_at "lk") bd4 ?_)
  | (with_reducible refine WDict.g_getS (by walk_at "lk") bd5 ?_)
  | (with_reducible refine WDict.g_getS (by walk_at "lk") bd6 ?_))
local macro_rules | `(tactic| walk_at "go1") => `(tactic| first
  | (with_reducible refine WDict.g_getS (by walk_at "lk") md2 ?_)
  | (with_reducible refine WDict.g_getS (by walk_at "lk") md3 ?_)
  | (with_reducible refine WDict.g_getS (by walk_at "lk") md4 ?_)
  | (with_reducible refine WDict.g_getS (by walk_at "lk") md5 ?_))
section
variable {K : PySem.W.Frag} {σ : L2.St} {H : Hp} {Q : VK} {te : TE} {g : TG} {tt : TT} {vs : List Nat}
theorem f_lcR2 {lo hi : Int} (h : -(2 ^ 62) ≤ lo ∧ lo < 2 ^ 62 ∧ -(2 ^ 62) ≤ hi ∧ hi < 2 ^ 62) (Pv : Addr → Nat → Hp → Prop) (h0 : ∀ D, H D = none → Pv D 0 (upd H D (.lst [])))
    (hs : ∀ D i H', H D = none → i < (hi - lo).toNat → Pv D i H' → g (.int (lo + i)) (wipe σ vs) H' fun σ2 H2 => wipe σ2 vs = wipe σ vs ∧ tt σ2 H2 fun b H3 => if b = true then te σ2 H3 fun y H4 => ∃ acc, H4 D = some (.lst acc) ∧ acc.length < sizeLine ∧ Pv D (i + 1) (upd H4 D (.lst (acc ++ [y]))) else Pv D (i + 1) H3)
    (hd : ∀ D H', H D = none → Pv D (hi - lo).toNat H' → Q (.ref D) H') : (-(2 ^ 62) ≤ lo ∧ lo < 2 ^ 62 ∧ -(2 ^ 62) ≤ hi ∧ hi < 2 ^ 62) ∧ tLcK g tt te vs σ Q (Itr lo (hi - lo).toNat) H :=
  ⟨h, fun D nD => lc_range (Pv D) (h0 D nD) (fun i H' hi' q => hs D i H' nD hi' q) fun H' q => hd D H' nD q⟩
end
def runOf (a n : Nat) : List Nat := (List.range n).map fun i => a + i
theorem runOf_nd (a n : Nat) : (runOf a n).Nodup := by
  unfold runOf
  exact List.Pairwise.map _ (fun x y h => by omega) List.nodup_range
theorem runOf_mem {a n x : Nat} : x ∈ runOf a n ↔ a ≤ x ∧ x < a + n := by
  unfold runOf
  rw [List.mem_map]
  constructor
  · rintro ⟨i, hi, rfl⟩
    have := List.mem_range.mp hi; omega
  · intro h
    exact ⟨x - a, List.mem_range.mpr (by omega), by omega⟩
theorem runOf_snoc (a n : Nat) : runOf a (n + 1) = runOf a n ++ [a + n] := by
  unfold runOf
  rw [List.range_succ, List.map_append]; rfl
theorem runOf_len (a n : Nat) : (runOf a n).length = n := by simp [runOf]
def spWcut : Sp := fun vs H Q _ => ∃ (c g : Addr) (k : Nat) (m lp da lc : Addr) (b : Nat) (r : Pairs) (n : Int) (ex : List (Key × V)) (cs : List Nat), vs = [.ref g, .ref m] ∧ Bag c g k H ∧ k ≤ 40000 ∧ MA m lp da b r n (.ref lc) ex H ∧ H lc = some (.lst (nv cs)) ∧ 13 ≤ b ∧ b ≤ 24 ∧ r.length ≤ 1000 ∧ cs.length = b - 1 ∧ ChOk b r.length cs ∧
  ∀ (q : Addr) (ls : List Nat) (k' : Nat) H', Kp g H H' → Bag c g k' H' → k' ≤ k + 100 → H q = none → H' q = some (.lst (nv ls)) → ls.Nodup → (∀ x ∈ ls, x < b + r.length) → ls.length ≤ 60 → Q (.ref q) H'
variable {P : Program} {w : World} {K : PySem.W.Frag} {mg : Str → Option Value} {base : Heap} {dA : Nat → Addr}
theorem ok__law_wide_cut (T : Txt K mg dA) (c__law_draw : C8.Cal P w K mg base 1 "_law_draw" spDraw []) (c__law_shuffled : C8.Cal P w K mg base 2 "_law_shuffled" spShuf []) (c__law_size : C8.Cal P w K mg base 1 "_law_size" spSize []) {f : Addr} {fd : FuncData} (F : Fun K "_law_wide_cut" "_law_wide_cut" s__law_wide_cut f fd) : FnOk P w K mg base CX0 3 f fd ["bag", "made"] spWcut := by
  refine F.ok sc__law_wide_cut (fun vs H Q E h => ?_) (fun cdv A outer s H vs Q E hr h => ?_)
  · obtain ⟨c, g, k, m, lp, da, lc, b, r, n, ex, cs, rfl, _⟩ := h
    rfl
  obtain ⟨c, g, k, m, lp, da, lc, b, r, n, ex, cs, rfl, hB, hk, hM, hlc, hb, hb2, hr2, hcl, hch, q⟩ := h
  refine ⟨_, (pss_cons (ps_set (i := 2) sc__law_wide_cut.nd rfl (.inl rfl) (pe_op op_sub (pe_dget (hu_of hr) (pv 1) pe_str (fun _ _ => rfl)) pe_int))
      (pss_cons (ps_set (i := 3) sc__law_wide_cut.nd rfl (.inl rfl) (pe_ix (kix_list K) (pe_lst (pa_cons pe_int (pa_cons pe_int (pa_cons pe_int (pa_cons pe_int (pa_cons pe_int (pa_cons pe_int (pa_cons pe_int (pa_cons pe_int pa_nil))))))))) (C8.pe_c c__law_draw hr (by decide) (by rfl) (pa_cons (pv 0) (pa_cons pe_int pa_nil))) (fun _ _ => rfl)))
      (pss_cons (ps_set (i := 4) sc__law_wide_cut.nd rfl (.inl rfl) (pe_callB (call_max2 rfl) (by rfl) T.b_max (by decide +kernel) (pa_cons pe_int (pa_cons (pe_op op_add (pe_op op_sub (pv 2) (pv 3)) pe_int) pa_nil))))
      (pss_cons (ps_set (i := 5) sc__law_wide_cut.nd rfl (.inl rfl) (pe_op op_cat (pe_lst (pa_cons (pe_op op_fdiv (pe_ix (kix_list K) (pe_dget (hu_of hr) (pv 1) pe_str (fun _ _ => rfl)) (pe_op op_sub (pv 4) pe_int) (fun _ _ => rfl)) pe_int) pa_nil)) (pe_lc (own := [("node", 9)]) rfl sc__law_wide_cut.nd (pi_range2 (by rfl) T.b_range (pa_cons (pe_op op_add (pv 4) pe_int) (pa_cons (pe_op op_add (pv 2) pe_int) pa_nil))) (blkOk_by (own := [("node", 9)]) (N := ["bag", "made", "total", "target", "begin", "leaves", "turn", "extra", "at", "node"]) (sc := defScope s__law_wide_cut) (by decide +kernel)) (fun _ _ _ _ _ => (pg_name (i := 9) sc__law_wide_cut.nd rfl (.inl rfl))) (fun _ _ _ _ _ => pts_nil) (fun _ _ _ _ _ => (pv 9)))))
      (Evl.pss_cut (ps_for PassesOwn.never rfl (pi_range1 (by rfl) T.b_range (pa_cons pe_int pa_nil)) (pg_name (i := 6) sc__law_wide_cut.nd rfl (.inl rfl)) (pss_cons (ps_set (i := 7) sc__law_wide_cut.nd rfl (.inl rfl) (C8.pe_c c__law_draw hr (by decide) (by rfl) (pa_cons (pv 0) (pa_cons (C8.pe_c c__law_size hr (by decide) (by rfl) (pa_cons (pv 1) pa_nil)) pa_nil))))
      (pss_one (ps_if (PW.pt (pw_and (pt_cmpR op_lt (pe_callB (kcall_len_seq K) (by rfl) T.b_len (by decide +kernel) (pa_cons (pv 5) pa_nil)) (pv 3) (nomark _)) (pw_and1 (pt_cmpR (kop_notIn_seq K) (pv 7) (pv 5) rfl)))) (pss_one (ps_set (i := 5) sc__law_wide_cut.nd rfl (.inl rfl) (pe_op op_cat (pv 5) (pe_lst (pa_cons (pv 7) pa_nil))))) pss_nil))))
      (pss_cons (ps_set (i := 8) sc__law_wide_cut.nd rfl (.inl rfl) (C8.pe_c c__law_draw hr (by decide) (by rfl) (pa_cons (pv 0) (pa_cons (pe_callB (kcall_len_seq K) (by rfl) T.b_len (by decide +kernel) (pa_cons (pv 5) pa_nil)) pa_nil))))
      (pss_cons (ps_set (i := 7) sc__law_wide_cut.nd rfl (.inl rfl) (C8.pe_c c__law_draw hr (by decide) (by rfl) (pa_cons (pv 0) (pa_cons (C8.pe_c c__law_size hr (by decide) (by rfl) (pa_cons (pv 1) pa_nil)) pa_nil))))
      (Evl.pss_cut (ps_if (PW.pt (pw_and (pt_cmpR op_eq (C8.pe_c c__law_draw hr (by decide) (by rfl) (pa_cons (pv 0) (pa_cons pe_int pa_nil))) pe_int (nomark _)) (pw_and1 (pt_cmpR (kop_notIn_seq K) (pv 7) (pv 5) rfl)))) (pss_one (ps_set (i := 5) sc__law_wide_cut.nd rfl (.inl rfl) (pe_op op_cat (pe_op op_cat (pe_slice (ksl_list K) (pv 5) po_none (po_some (pv 8))) (pe_lst (pa_cons (pv 7) pa_nil))) (pe_slice (ksl_list K) (pv 5) (po_some (pe_op op_add (pv 8) pe_int)) po_none)))) pss_nil)
      (pss_one (ps_ret (C8.pe_c c__law_shuffled hr (by decide) (by rfl) (pa_cons (pv 0) (pa_cons (pv 5) pa_nil))))))))))))), ?_⟩
  rw [show (L2.start ["bag", "made", "total", "target", "begin", "leaves", "turn", "extra", "at", "node"] [.ref g, .ref m] : L2.St) = [some (.ref g), some (.ref m), none, none, none, none, none, none, none, none] from rfl]
  try simp only [WL.cxK]
  have hmd := hM.d
  walk_at "go"
  rw [show (b : Int) - 1 = ((b - 1 : Nat) : Int) by omega]
  refine ⟨sz_le (n := 8) (by decide), fun l0 nl0 => ?_⟩
  have s1 := same_new (o := .lst [V.int 17, V.int 18, V.int 12, V.int 11, V.int 17, V.int 16, V.int 10, V.int 13]) nl0
  have e1 : upd H l0 (.lst [V.int 17, V.int 18, V.int 12, V.int 11, V.int 17, V.int 16, V.int 10, V.int 13]) l0 = some (.lst (nv [17, 18, 12, 11, 17, 16, 10, 13])) := upd_same
  have B1 := hB.same s1
  have M1 := hM.same s1
  have hlc1 := s1 _ _ hlc
  generalize upd H l0 (.lst [V.int 17, V.int 18, V.int 12, V.int 11, V.int 17, V.int 16, V.int 10, V.int 13]) = H1 at s1 e1 B1 M1 hlc1 ⊢
  walk_at "go"
  refine g_draw B1 (by omega) (by decide) (by decide) fun d H2 hd k2 B2 => ?_
  have e2 := B1.stay k2 e1 nl_
  have M2 := M1.kp k2 B1
  have hlc2 := B1.stay k2 hlc1 nl_
  have kk2 : Kp g H H2 := (Kp.same s1).trans k2
  obtain ⟨tg, htg, ht1, ht2⟩ : ∃ tg : Nat, ([17, 18, 12, 11, 17, 16, 10, 13] : List Nat)[d]? = some tg ∧ 10 ≤ tg ∧ tg ≤ 18 := by
    have hd8 : d < 8 := by omega
    match d, hd8 with
    | 0, _ => exact ⟨17, rfl, by decide, by decide⟩
    | 1, _ => exact ⟨18, rfl, by decide, by decide⟩
    | 2, _ => exact ⟨12, rfl, by decide, by decide⟩
    | 3, _ => exact ⟨11, rfl, by decide, by decide⟩
    | 4, _ => exact ⟨17, rfl, by decide, by decide⟩
    | 5, _ => exact ⟨16, rfl, by decide, by decide⟩
    | 6, _ => exact ⟨10, rfl, by decide, by decide⟩
    | 7, _ => exact ⟨13, rfl, by decide, by decide⟩
  clear e1 B1 M1 hlc1
  walk_at "go"
  refine g_ixL (SqL.of e2) (v := .int (tg : Int)) (at_z (j := d) rfl (nv_at htg)) ?_
  have hmd2 := M2.d
  walk_at "go"
  have hbg : (if ((b - 1 : Nat) : Int) - (tg : Int) + 1 > 1 then ((b - 1 : Nat) : Int) - (tg : Int) + 1 else 1) = ((max 1 (b - 1 + 1 - tg) : Nat) : Int) := by split <;> omega
  rw [hbg]
  generalize hbn : max 1 (b - 1 + 1 - tg) = bn
  have hbn1 : 1 ≤ bn ∧ bn ≤ b - 1 ∧ b - 1 - bn ≤ 18 := by omega
  have hx : cs[bn - 1]? = some (cs[bn - 1]'(by omega)) := List.getElem?_eq_getElem (by omega)
  generalize cs[bn - 1]'(by omega) = x at hx
  have hxk := hch _ _ hx
  walk_at "go"
  refine g_ixL (SqL.of hlc2) (v := .int (x : Int)) (at_z (j := bn - 1) (by omega) (nv_at hx)) ?_
  walk_at "go"
  rw [nat_half]
  refine ⟨sz_le (n := 1) (by decide), fun l1 nl1 => ?_⟩
  have s3 := same_new (o := .lst [V.int ((x / 2 : Nat) : Int)]) nl1
  have e3 : upd H2 l1 (.lst [V.int ((x / 2 : Nat) : Int)]) l1 = some (.lst (nv [x / 2])) := upd_same
  generalize upd H2 l1 (.lst [V.int ((x / 2 : Nat) : Int)]) = H3 at s3 e3 ⊢
  walk_at "go"
  rw [show (bn : Int) + 1 = ((bn + 1 : Nat) : Int) by omega]
  refine f_lcR2 (by omega) (fun D i H' => H' = upd H3 D (.lst (nv (runOf (bn + 1) i)))) (fun D nD => rfl) (fun D i H' nD hi hP => ?_) (fun D H' nD hP => ?_)
  · subst hP
    walk_at "go"
    refine ⟨rfl, ?_⟩
    walk_at "go"
    refine ⟨_, upd_same, by rw [nv_len, runOf_len]; exact sz_lt (by omega), ?_⟩
    rw [upd_upd, runOf_snoc, nv_app_one, show ((bn + 1 : Nat) : Int) + (i : Int) = ((bn + 1 + i : Nat) : Int) by omega]
  subst hP
  rw [show (((b - 1 : Nat) : Int) + 1 - ((bn + 1 : Nat) : Int)).toNat = b - 1 - bn by omega]
  have s4 := s3.trans (same_new (o := .lst (nv (runOf (bn + 1) (b - 1 - bn)))) nD)
  have e4 := same_new (o := .lst (nv (runOf (bn + 1) (b - 1 - bn)))) nD _ _ e3
  have f4 : upd H3 D (.lst (nv (runOf (bn + 1) (b - 1 - bn)))) D = some (.lst (nv (runOf (bn + 1) (b - 1 - bn)))) := upd_same
  generalize upd H3 D (.lst (nv (runOf (bn + 1) (b - 1 - bn)))) = H4 at s4 e4 f4 ⊢
  refine g_cat e4 f4 (by rw [nv_len, nv_len, runOf_len]; simp; omega) fun p1 np1 => ?_
  rw [← nv_app]
  have S5 : CutS c g m lp da p1 b r n (.ref lc) ex (k + 1) ([x / 2] ++ runOf (bn + 1) (b - 1 - bn)) H (upd H4 p1 (.lst (nv ([x / 2] ++ runOf (bn + 1) (b - 1 - bn))))) := by
    have s5 := s4.trans (same_new (o := .lst (nv ([x / 2] ++ runOf (bn + 1) (b - 1 - bn)))) np1)
    refine ⟨kk2.trans (Kp.same s5), B2.same s5, M2.same s5, upd_same, ?_, fun y hy => ?_⟩
    · rw [List.singleton_append, List.nodup_cons]
      exact ⟨fun h => by have := runOf_mem.mp h; omega, runOf_nd _ _⟩
    · rcases List.mem_append.mp hy with hy | hy
      · rw [List.mem_singleton.mp hy]; exact hxk.1
      · have := runOf_mem.mp hy; omega
  have hln : ([x / 2] ++ runOf (bn + 1) (b - 1 - bn)).length ≤ 19 ∧ 1 ≤ ([x / 2] ++ runOf (bn + 1) (b - 1 - bn)).length := by rw [List.length_append, runOf_len]; simp; omega
  generalize [x / 2] ++ runOf (bn + 1) (b - 1 - bn) = ls at S5 hln ⊢
  generalize upd H4 p1 (.lst (nv ls)) = H5 at S5 ⊢
  clear s4 e4 f4 nD np1 s3 e3 nl1 hlc2 M2 B2 e2 k2 hmd2
  walk_at "go"
  refine ⟨fun σ' H' => ∃ (l : Addr) (ls : List Nat) (k2 : Nat) (y1 y2 : Option V), σ' = [some (.ref g), some (.ref m), some (.int ((b - 1 : Nat) : Int)), some (.int (tg : Int)), some (.int (bn : Int)), some (.ref l), y1, y2, none, none] ∧ CutS c g m lp da l b r n (.ref lc) ex k2 ls H H' ∧ k2 ≤ k + 9 ∧ ls.length ≤ 30 ∧ 1 ≤ ls.length, ?_, fun σ' H' hW => ?_⟩
  · walk_at "go"
    refine f_rng1 (z := 8) (by decide) (by decide) (fun i σ' H' => ∃ (l : Addr) (ls : List Nat) (k2 : Nat) (y1 y2 : Option V), σ' = [some (.ref g), some (.ref m), some (.int ((b - 1 : Nat) : Int)), some (.int (tg : Int)), some (.int (bn : Int)), some (.ref l), y1, y2, none, none] ∧ CutS c g m lp da l b r n (.ref lc) ex k2 ls H H' ∧ k2 ≤ k + 1 + i ∧ ls.length ≤ 19 + i ∧ 1 ≤ ls.length)
      ⟨p1, ls, _, none, none, rfl, S5, by omega, by omega, by omega⟩ (fun i σ' H' hi hP => ?_) (fun σ' H' hP => ?_)
    · obtain ⟨l, ls, k4, y1, y2, rfl, S3, hk3, hls3, hl1⟩ := hP
      walk_at "go"
      refine ⟨m, lp, da, b, r, n, _, ex, rfl, S3.M, ?_⟩
      walk_at "go"
      refine g_draw S3.B (by omega) (by omega) (by omega) fun d2 H3 hd2 k5 B3 => ?_
      have S4 := S3.draw k5 B3
      have hl4 := S4.hl
      walk_at "go"
      rw [nv_len]
      have skip : ∃ (l2 : Addr) (ls2 : List Nat) (k2 : Nat) (y1 y2 : Option V), ([some (.ref g), some (.ref m), some (.int ((b - 1 : Nat) : Int)), some (.int (tg : Int)), some (.int (bn : Int)), some (.ref l), some (.int (i : Int)), some (.int (d2 : Int)), none, none] : L2.St) = [some (.ref g), some (.ref m), some (.int ((b - 1 : Nat) : Int)), some (.int (tg : Int)), some (.int (bn : Int)), some (.ref l2), y1, y2, none, none] ∧ CutS c g m lp da l2 b r n (.ref lc) ex k2 ls2 H H3 ∧ k2 ≤ k + 1 + (i + 1) ∧ ls2.length ≤ 19 + (i + 1) ∧ 1 ≤ ls2.length := ⟨l, ls, _, _, _, rfl, S4, by omega, by omega, hl1⟩
      refine g_ite (fun e => ?_) (fun e => ?_)
      · walk_at "go"
        refine g_ninN (SqL.of hl4) ?_
        walk_at "go"
        refine g_iteN (fun e => ?_) (fun e => ?_)
        · walk_at "go"
          refine ⟨sz_le (n := 1) (by decide), fun p1 np1 => ?_⟩
          have s8 := same_new (o := .lst [V.int (d2 : Int)]) np1
          have e8 : upd H3 p1 (.lst [V.int (d2 : Int)]) p1 = some (.lst (nv [d2])) := upd_same
          generalize upd H3 p1 (.lst [V.int (d2 : Int)]) = H8 at s8 e8 ⊢
          refine g_cat (s8 _ _ hl4) e8 (by rw [nv_len, nv_len]; simp; omega) fun p2 np2 => ?_
          rw [← nv_app]
          have s9 := s8.trans (same_new (o := .lst (nv (ls ++ [d2]))) np2)
          walk_at "go"
          exact ⟨p2, _, _, _, _, rfl, (S4.same s9).list upd_same (nodup_one S4.nd e) (bd_one S4.bd (by omega)), by omega, by simp; omega, by simp⟩
        · walk_at "go"
          exact skip
      · walk_at "go"
        exact skip
    · obtain ⟨l, ls, k4, y1, y2, rfl, S3, hk3, hls3, hl1⟩ := hP
      exact ⟨l, ls, k4, y1, y2, rfl, S3, by omega, by omega, hl1⟩
  clear S5
  obtain ⟨l, ls, k3, y1, y2, rfl, S1, hk3, hls, hl1⟩ := hW
  have hll := S1.hl
  walk_at "go"
  rw [nv_len]
  refine g_draw S1.B (by omega) (by omega) (by omega) fun d2 H6 hd2 k6 B6 => ?_
  have S6 := S1.draw k6 B6
  walk_at "go"
  refine ⟨m, lp, da, b, r, n, _, ex, rfl, S6.M, ?_⟩
  walk_at "go"
  refine g_draw S6.B (by omega) (by omega) (by omega) fun d3 H7 hd3 k7 B7 => ?_
  have S7 := S6.draw k7 B7
  walk_at "go"
  refine ⟨fun σ' H' => ∃ (l : Addr) (ls : List Nat) (k2 : Nat), σ' = [some (.ref g), some (.ref m), some (.int ((b - 1 : Nat) : Int)), some (.int (tg : Int)), some (.int (bn : Int)), some (.ref l), y1, some (.int (d3 : Int)), some (.int (d2 : Int)), none] ∧ CutS c g m lp da l b r n (.ref lc) ex k2 ls H H' ∧ k2 ≤ k + 14 ∧ ls.length ≤ 31, ?_, fun σ' H' hW => ?_⟩
  · walk_at "go"
    refine g_draw S7.B (by omega) (by decide) (by decide) fun d4 H8 hd4 k8 B8 => ?_
    have S8 := S7.draw k8 B8
    have hl8 := S8.hl
    walk_at "go"
    have skip : ∃ (l2 : Addr) (ls2 : List Nat) (k2 : Nat), ([some (.ref g), some (.ref m), some (.int ((b - 1 : Nat) : Int)), some (.int (tg : Int)), some (.int (bn : Int)), some (.ref l), y1, some (.int (d3 : Int)), some (.int (d2 : Int)), none] : L2.St) = [some (.ref g), some (.ref m), some (.int ((b - 1 : Nat) : Int)), some (.int (tg : Int)), some (.int (bn : Int)), some (.ref l2), y1, some (.int (d3 : Int)), some (.int (d2 : Int)), none] ∧ CutS c g m lp da l2 b r n (.ref lc) ex k2 ls2 H H8 ∧ k2 ≤ k + 14 ∧ ls2.length ≤ 31 := ⟨l, ls, _, rfl, S8, by omega, by omega⟩
    refine g_iteI (fun e => ?_) (fun e => ?_)
    · walk_at "go"
      refine g_ninN (SqL.of hl8) ?_
      walk_at "go"
      refine g_iteN (fun e => ?_) (fun e => ?_)
      · walk_at "go"
        refine g_slL (SqL.of hl8) (cut_to _ d2) fun p1 np1 => ?_
        rw [nv_take]
        have s4 := same_new (o := .lst (nv (ls.take d2))) np1
        have e4 : upd H8 p1 (.lst (nv (ls.take d2))) p1 = some (.lst (nv (ls.take d2))) := upd_same
        generalize upd H8 p1 (.lst (nv (ls.take d2))) = H9 at s4 e4 ⊢
        walk_at "go"
        refine ⟨sz_le (n := 1) (by decide), fun p2 np2 => ?_⟩
        have s5 := s4.trans (same_new (o := .lst [V.int (d3 : Int)]) np2)
        have e5 := same_new (o := .lst [V.int (d3 : Int)]) np2 _ _ e4
        have f5 : upd H9 p2 (.lst [V.int (d3 : Int)]) p2 = some (.lst (nv [d3])) := upd_same
        generalize upd H9 p2 (.lst [V.int (d3 : Int)]) = H10 at s5 e5 f5 ⊢
        refine g_cat e5 f5 (by rw [nv_len, nv_len, List.length_take]; simp; omega) fun p3 np3 => ?_
        rw [← nv_app]
        have s6 := s5.trans (same_new (o := .lst (nv (ls.take d2 ++ [d3]))) np3)
        have e6 : upd H10 p3 (.lst (nv (ls.take d2 ++ [d3]))) p3 = some (.lst (nv (ls.take d2 ++ [d3]))) := upd_same
        generalize upd H10 p3 (.lst (nv (ls.take d2 ++ [d3]))) = H11 at s6 e6 ⊢
        have hl11 := s6 _ _ hl8
        walk_at "go"
        rw [show (d2 : Int) + 1 = ((d2 + 1 : Nat) : Int) by omega]
        refine g_slL (SqL.of hl11) (cut_from _ (d2 + 1)) fun p4 np4 => ?_
        rw [nv_drop]
        have s7 := s6.trans (same_new (o := .lst (nv (ls.drop (d2 + 1)))) np4)
        have e7 := same_new (o := .lst (nv (ls.drop (d2 + 1)))) np4 _ _ e6
        have f7 : upd H11 p4 (.lst (nv (ls.drop (d2 + 1)))) p4 = some (.lst (nv (ls.drop (d2 + 1)))) := upd_same
        generalize upd H11 p4 (.lst (nv (ls.drop (d2 + 1)))) = H12 at s7 e7 f7 ⊢
        refine g_cat e7 f7 (by rw [nv_len, nv_len, List.length_append, List.length_take, List.length_drop]; simp; omega) fun p5 np5 => ?_
        rw [← nv_app]
        have s8 := s7.trans (same_new (o := .lst (nv (ls.take d2 ++ [d3] ++ ls.drop (d2 + 1)))) np5)
        have hsub := cut_sub ls d2
        have hpm : (ls.take d2 ++ [d3] ++ ls.drop (d2 + 1)).Perm (ls.take d2 ++ ls.drop (d2 + 1) ++ [d3]) := by
          rw [List.append_assoc, List.append_assoc]
          exact List.Perm.append_left _ List.perm_append_comm
        walk_at "go"
        exact ⟨p5, _, _, rfl, (S8.same s8).list upd_same (hpm.nodup_iff.mpr (nodup_one (S8.nd.sublist hsub) fun h => e (hsub.subset h))) (fun y hy => bd_one (fun z hz => S8.bd z (hsub.subset hz)) (by omega) y (hpm.mem_iff.mp hy)), by omega, by have h1 := hsub.length_le; rw [hpm.length_eq, List.length_append, List.length_singleton]; omega⟩
      · walk_at "go"
        exact skip
    · walk_at "go"
      exact skip
  clear S1 S6 S7
  obtain ⟨l, ls, k2, rfl, S1, hk2, hls2⟩ := hW
  walk_at "go"
  refine ⟨c, g, l, k2, ls, rfl, S1.B, by omega, S1.hl, by omega, fun qa ms k3 H3 kp3 B3 hk3 nqa hqa hperm => ?_⟩
  exact q qa ms k3 H3 (S1.kp.trans kp3) B3 (by omega) (S1.kp.free (S1.B.nb nqa).1 nqa) hqa (hperm.nodup_iff.mpr S1.nd) (fun x hx => S1.bd x (hperm.mem_iff.mp hx)) (by have := hperm.length_eq; omega)
end K22
set_option Elab.async false
set_option linter.all false
set_option maxRecDepth 100000
set_option maxHeartbeats 4000000
namespace K22
open PySem PySem.Spec PyProof.Rows L2 WL
local macro_rules | `(tactic| walk_at "lk") => `(tactic| first
  | apply upd_same
  | assumption
  | (rw [upd_ne (by assumption)]; first | exact upd_same | assumption | (rw [upd_ne (by assumption)]; first | exact upd_same | assumption | (rw [upd_ne (by assumption)]; first | exact upd_same | assumption))))
local macro_rules | `(tactic| walk_at "go1") => `(tactic| first
  | (with_reducible refine g_seq ?_)
  | (with_reducible refine g_asg ?_)
  | (with_reducible refine g_name ?_)
  | (with_reducible refine g_sub ?_)
  | ((with_reducible refine' g_var ?gv ?_); (case gv => apply Eq.refl))
  | (with_reducible refine g_c ?_)
  | (with_reducible refine g_op ?_)
  | (with_reducible refine g_un ?_)
  | (with_reducible refine g_I0 ?_)
  | ((with_reducible refine g_I ?gc ?_); (case gc => first | assumption | decide | (show (0 : Int) < _; omega) | refine Or.inr ⟨by omega, by omega⟩ | refine Or.inl ⟨by omega, by omega⟩ | refine ⟨by omega, by omega⟩))
  | (with_reducible refine iteT ?_)
  | (with_reducible refine iteF ?_)
  | (with_reducible refine iteNT ?_)
  | (with_reducible refine iteNF ?_)
  | (with_reducible refine g_andV ?_)
  | (with_reducible refine g_orV ?_)
  | ((with_reducible refine' g_lenS (by assumption) ?_))
  | ((with_reducible refine' g_lenS (SqL.of (by walk_at "lk")) ?_))
  | (with_reducible refine g_U ?_)
  | ((with_reducible refine' g_eq ?gs ?_); (case gs => rfl))
  | ((with_reducible refine g_ne ?gs ?_); (case gs => rfl))
  | (with_reducible refine g_drop ?_)
  | (with_reducible refine g_ret ?_)
  | (with_reducible refine g_next ?_)
  | (with_reducible refine g_ifS ?_)
  | (with_reducible refine g_ifE ?_)
  | (with_reducible refine g_test ?_)
  | (with_reducible refine g_tb ?_)
  | (with_reducible refine g_bl ?_)
  | (with_reducible refine g_not ?_)
  | (with_reducible refine g_and ?_)
  | (with_reducible refine g_or ?_)
  | (with_reducible refine g_nil ?_)
  | (with_reducible refine g_cons ?_)
  | (with_reducible refine g_cb ?_)
  | (with_reducible refine g_call ?_)
  | (with_reducible refine g_int ?_)
  | (with_reducible refine g_two ?_)
  | ((with_reducible refine g_lenStr ?gz ?_); (case gz => first | assumption | exact sz_le (by omega)))
  | (with_reducible refine g_m1 ?_)
  | (with_reducible refine g_isS ?_)
  | (with_reducible refine g_nn ?_)
  | (with_reducible refine g_yes ?_)
  | (with_reducible refine g_for ?_)
  | (with_reducible refine g_ckw ?_)
  | (with_reducible refine g_chain ?_)
  | (with_reducible refine g_gcons ?_)
  | (with_reducible refine g_gnil ?_)
  | (with_reducible refine g_notV ?_)
  | (with_reducible refine g_iZip ?_)
  | (with_reducible refine g_lc ?_)
  | (with_reducible refine g_lc2 ?_)
  | (with_reducible refine g_iList ?_)
  | (with_reducible refine g_iRng1 ?_)
  | (with_reducible refine g_iRng2 ?_)
  | (with_reducible refine g_sl ?_)
  | (with_reducible refine g_noPart ?_)
  | (with_reducible refine g_part ?_)
  | (with_reducible refine g_ex1 ?_)
  | (with_reducible refine g_bm ?_)
  | ((with_reducible refine' g_tyL (by walk_at "lk") ?_))
  | ((with_reducible refine' g_aug ?gv ?_); (case gv => exact rfl))
  | (with_reducible refine g_ipI ?_)
  | (with_reducible refine g_turn ?_)
  | (with_reducible refine g_brk ?_)
  | (with_reducible refine g_cont ?_)
  | (with_reducible refine g_sign ?_)
  | (with_reducible refine g_lst ?_)
  | (with_reducible refine g_tup ?_)
  | ((with_reducible refine' g_ixL (by assumption) ?ga ?_); (case ga => assumption))
  | ((with_reducible refine' g_ixL (SqL.of (by walk_at "lk")) ?ga ?_); (case ga => first | exact rfl | assumption))
  | ((with_reducible refine' g_ixT (SqT.of (by walk_at "lk")) ?ga ?_); (case ga => first | exact rfl | assumption))
  | ((with_reducible refine' g_lenT (SqT.of (by walk_at "lk")) ?_))
  | ((with_reducible refine' g_isiS (b := true) ?ga ?_); (case ga => decide +kernel))
  | ((with_reducible refine' g_isiS (b := false) ?ga ?_); (case ga => decide +kernel))
  | ((with_reducible refine' g_isiI (b := true) ?ga ?_); (case ga => decide +kernel))
  | ((with_reducible refine' g_isiI (b := false) ?ga ?_); (case ga => decide +kernel))
  | ((with_reducible refine' g_setL2 ?ga ?gb ?_); (case ga => exact rfl); (case gb => exact rfl))
  | ((with_reducible refine' g_setL (by walk_at "lk") ?ga ?gb ?_); (case ga => exact rfl); (case gb => exact rfl)))
local macro_rules | `(tactic| walk_at "go") => `(tactic| ((repeat walk_at "go1"); try dsimp only [List.set, List.cons_append, List.nil_append]))
local macro_rules | `(tactic| walk_at "go1") => `(tactic| first
  | (with_reducible refine WOwn.g_fl ?_)
  | (with_reducible refine WOwn.g_sfl ?_)
  | (with_reducible refine WOwn.g_make ?_)
  | (with_reducible refine WOwn.g_meth ?_)
  | (with_reducible refine WOwn.g_sm ?_)
  | (with_reducible refine WOwn.g_cv ?_))
local macro_rules | `(tactic| walk_at "go1") => `(tactic| first
  | (with_reducible refine WDict.g_dget ?_)
  | (with_reducible refine WDict.g_din ?_)
  | (with_reducible refine WDict.g_dnotin ?_)
  | (with_reducible refine WDict.g_dput ?_)
  | (with_reducible refine WDict.g_dnew ?_)
  | (with_reducible refine WDict.g_dget2 ?_)
  | (with_reducible refine WDict.g_dsetd ?_)
  | (with_reducible refine WDict.g_disp ?_)
  | (with_reducible refine WDict.g_pair ?_)
  | (with_reducible refine WDict.g_pair0 ?_)
  | (with_reducible refine WDict.g_tru ?_))
local macro_rules | `(tactic| walk_at "go1") => `(tactic| first
  | (with_reducible refine g_iEnum ?_)
  | (with_reducible refine g_iTup ?_)
  | (with_reducible refine g_bm0 ?_)
  | ((with_reducible refine' g_gTup (SqT.of (by walk_at "lk")) ?gn ?_); (case gn => exact rfl)))
local macro_rules | `(tactic| walk_at "go1") => `(tactic| first
  | (with_reducible refine WDict.g_getS (by walk_at "lk") md2 ?_)
  | (with_reducible refine WDict.g_getS (by walk_at "lk") md3 ?_)
  | (with_reducible refine WDict.g_getS (by walk_at "lk") md4 ?_)
  | (with_reducible refine WDict.g_getS (by walk_at "lk") md5 ?_))
/-- flags -/
def bv (n : Nat) (f : Nat → Bool) : List V := (List.range n).map fun i => V.bl (f i)
theorem bv_len (n : Nat) (f : Nat → Bool) : (bv n f).length = n := by simp [bv]
theorem bv_at {n j : Nat} {f : Nat → Bool} (h : j < n) : (bv n f)[j]? = some (.bl (f j)) := by rw [bv, List.getElem?_map, List.getElem?_range h]; rfl
theorem bv_set {n j : Nat} {f : Nat → Bool} : (bv n f).set j (.bl true) = bv n (fun i => decide (i = j) || f i) := by
  refine List.ext_getElem? fun i => ?_
  by_cases hi : i < n
  · rw [List.getElem?_set, bv_at hi, bv_len]
    by_cases e : j = i
    · subst e; rw [bv_at hi]; simp [hi]
    · rw [if_neg e, bv_at hi]; simp [Ne.symm e]
  · rw [List.getElem?_eq_none (by rw [List.length_set, bv_len]; omega), List.getElem?_eq_none (by rw [bv_len]; omega)]
theorem ixN_here {n j : Nat} (h : j < n) : ixN n (j : Int) = some j := by
  unfold ixN
  rw [if_pos (Int.natCast_nonneg _)]
  simp [h]
theorem bv_rep (n : Nat) : (List.replicate n [V.bl false]).flatten = bv n (fun _ => false) := by
  induction n with
  | zero => rfl
  | succ n ih => rw [List.replicate_succ', List.flatten_append, ih, bv, bv, List.range_succ, List.map_append]; rfl
def spMet : Sp := fun vs H Q _ => ∃ (m lp da : Addr) (b : Nat) (r : Pairs) (n : Int) (vc : V) (ex : List (Key × V)) (nd : Nat) (ll : Addr) (ls : List Nat), vs = [.ref m, .int (nd : Int), .ref ll] ∧ MA m lp da b r n vc ex H ∧ 0 < b ∧ b ≤ 1000 ∧ r.length ≤ 1000 ∧ nd < b + r.length ∧ H ll = some (.lst (nv ls)) ∧
  ∀ (q : Addr) (lv : List Nat) H', Same H H' → H q = none → H' q = some (.lst (nv lv)) → lv.Pairwise (· < ·) → (∀ x, x ∈ lv ↔ Rch (kidF b (r.map (·.2))) (fun n => decide (n ∈ ls)) nd x ∧ 0 < x ∧ x < b) → Q (.ref q) H'
def tn (v : Bool) : V := .int ((v.toNat : Nat) : Int)
def spVal : Sp := fun vs H Q _ => ∃ (m lp da : Addr) (b : Nat) (r : Pairs) (n : Int) (vc : V) (ex : List (Key × V)) (d : Addr) (kvs : List (Key × V)) (ch : Nat → Option Bool) (L : Nat), vs = [.ref m, .ref d, .int (L : Int)] ∧ MA m lp da b r n vc ex H ∧ b ≤ 1000 ∧ r.length ≤ 1000 ∧ H d = some (.dK kvs) ∧ (∀ n : Nat, valV kvs (.inl (n : Int)) = (ch n).map tn) ∧ L / 2 < b + r.length ∧
  ∀ H', Same H H' → Q (tn (lit ch b (r.map (·.2)) L)) H'
theorem tn_odd (L : Nat) : Builtin.bitAnd (L : Int) 1 = (((odd L).toNat : Nat) : Int) := by
  rw [bitAnd_m1]
  unfold odd
  rcases (by omega : L % 2 = 0 ∨ L % 2 = 1) with h | h <;> rw [h] <;> simp <;> omega
theorem tn_xor (a c : Bool) : Builtin.bitXor ((a.toNat : Nat) : Int) ((c.toNat : Nat) : Int) = (((a != c).toNat : Nat) : Int) := by cases a <;> cases c <;> decide
theorem tn_and (a c : Bool) : Builtin.bitAnd ((a.toNat : Nat) : Int) ((c.toNat : Nat) : Int) = (((a && c).toNat : Nat) : Int) := by cases a <;> cases c <;> decide
theorem getD_tn (o : Option Bool) (a : Bool) : (o.map tn).getD (tn a) = tn (o.getD a) := by cases o <;> rfl
theorem vals_at {ch : Nat → Option Bool} {b j : Nat} {ps : List (Nat × Nat)} (h : j < b + ps.length) : ((vals ch b ps).map tn)[j]? = some (tn (node ch b ps j)) := by
  have hl := vals_len (ch := ch) (b := b) _ ps rfl
  rw [List.getElem?_map]
  unfold node
  rw [List.getD_eq_getElem?_getD, List.getElem?_eq_getElem (by omega)]
  rfl
variable {P : Program} {w : World} {K : PySem.W.Frag} {mg : Str → Option Value} {base : Heap} {dA : Nat → Addr}
theorem ok__law_met (T : Txt K mg dA)  {f : Addr} {fd : FuncData} (F : Fun K "_law_met" "_law_met" s__law_met f fd) : FnOk P w K mg base CX0 1 f fd ["made", "node", "leaves"] spMet := by
  refine F.ok sc__law_met (fun vs H Q E h => ?_) (fun cdv A outer s H vs Q E hr h => ?_)
  · obtain ⟨m, lp, da, b, r, n, vc, ex, nd, ll, ls, rfl, _⟩ := h
    rfl
  obtain ⟨m, lp, da, b, r, n, vc, ex, nd, ll, ls, rfl, hM, hb, hb2, hr2, hnd, hll, q⟩ := h
  refine ⟨_, (pss_cons (ps_set (i := 3) sc__law_met.nd rfl (.inl rfl) (pe_op op_rep (pe_lst (pa_cons pe_bl pa_nil)) (pe_op op_add (pv 1) pe_int)))
      (pss_cons (ps_asg pe_bl (pg_sub (pv 3) (pv 1) set_list))
      (pss_cons (ps_set (i := 4) sc__law_met.nd rfl (.inl rfl) (pe_lst pa_nil))
      (pss_cons (ps_for PassesOwn.never rfl (pi_range1 (by rfl) T.b_range (pa_cons (pv 1) pa_nil)) (pg_name (i := 5) sc__law_met.nd rfl (.inl rfl)) (pss_cons (ps_set (i := 6) sc__law_met.nd rfl (.inl rfl) (pe_op op_sub (pv 1) (pv 5)))
      (pss_one (ps_if (PW.pt (pw_and (pt_val (pe_ix (kix_list K) (pv 3) (pv 6) (fun _ _ => rfl))) (pw_and1 (pt_cmpR (kop_notIn_seq K) (pv 6) (pv 2) rfl)))) (pss_one (ps_if (pt_cmpR op_lt (pv 6) (pe_dget (hu_of hr) (pv 0) pe_str (fun _ _ => rfl)) (nomark _)) (pss_one (ps_set (i := 4) sc__law_met.nd rfl (.inl rfl) (pe_op op_cat (pe_lst (pa_cons (pv 6) pa_nil)) (pv 4)))) (pss_cons (ps_set (i := 7) sc__law_met.nd rfl (.inl rfl) (pe_ix (kix_list K) (pe_dget (hu_of hr) (pv 0) pe_str (fun _ _ => rfl)) (pe_op op_sub (pv 6) (pe_dget (hu_of hr) (pv 0) pe_str (fun _ _ => rfl))) (fun _ _ => rfl)))
      (pss_cons (ps_asg pe_bl (pg_sub (pv 3) (pe_op op_fdiv (pe_ix (kix_tup K) (pv 7) pe_int (fun _ _ => rfl)) pe_int) set_list))
      (pss_one (ps_asg pe_bl (pg_sub (pv 3) (pe_op op_fdiv (pe_ix (kix_tup K) (pv 7) pe_int (fun _ _ => rfl)) pe_int) set_list))))))) pss_nil))))
      (pss_one (ps_ret (pv 4))))))), ?_⟩
  rw [show (L2.start ["made", "node", "leaves", "reached", "met", "turn", "below", "pair"] [.ref m, .int (nd : Int), .ref ll] : L2.St) = [some (.ref m), some (.int (nd : Int)), some (.ref ll), none, none, none, none, none] from rfl]
  try simp only [WL.cxK]
  walk_at "go"
  refine ⟨sz_le (n := 1) (by decide), fun l0 nl0 => ?_⟩
  have s1 := same_new (o := .lst [V.bl false]) nl0
  have e1 : upd H l0 (.lst [V.bl false]) l0 = some (.lst [V.bl false]) := upd_same
  generalize upd H l0 (.lst [V.bl false]) = H1 at s1 e1 ⊢
  walk_at "go"
  refine g_rep e1 (by omega) (by omega) (by simp; omega) fun p np => ?_
  rw [show ((nd : Int) + 1).toNat = nd + 1 by omega, bv_rep]
  have s2 := s1.trans (same_new (o := .lst (bv (nd + 1) fun _ => false)) np)
  have e2 : upd H1 p (.lst (bv (nd + 1) fun _ => false)) p = some (.lst (bv (nd + 1) fun _ => false)) := upd_same
  have npH := s1.free np
  generalize upd H1 p (.lst (bv (nd + 1) fun _ => false)) = H2 at s2 e2 ⊢
  walk_at "go"
  refine g_setL e2 (n := nd) (by rw [bv_len]; exact ixN_here (by omega)) bv_set ?_
  have s3 : Same H (upd H2 p (.lst (bv (nd + 1) fun i => decide (i = nd) || false))) := same_mut s2 npH
  have e3 : upd H2 p (.lst (bv (nd + 1) fun i => decide (i = nd) || false)) p = some (.lst (bv (nd + 1) fun i => decide (i = nd))) := by rw [upd_same]; simp
  generalize upd H2 p (.lst (bv (nd + 1) fun i => decide (i = nd) || false)) = H3 at s3 e3 ⊢
  walk_at "go"
  refine ⟨Nat.zero_le _, fun l1 nl1 => ?_⟩
  have s4 := s3.trans (same_new (o := .lst []) nl1)
  have e4 := same_new (o := .lst []) nl1 _ _ e3
  have f4 : upd H3 l1 (.lst []) l1 = some (.lst (nv [])) := upd_same
  have nlp : l1 ≠ p := (ne_of_none e3 nl1).symm
  have nl1H := s3.free nl1
  generalize upd H3 l1 (.lst []) = H4 at s4 e4 f4 ⊢
  walk_at "go"
  have hkl := kidF_lt hM.ok
  refine f_rng1 (z := (nd : Int)) (by omega) (by omega) (fun i σ' H' => ∃ (l : Addr) (lv : List Nat) (f : Nat → Bool) (y1 y2 y3 : Option V), σ' = [some (.ref m), some (.int (nd : Int)), some (.ref ll), some (.ref p), some (.ref l), y1, y2, y3] ∧ Same H H' ∧ H l = none ∧ l ≠ p ∧ H' l = some (.lst (nv lv)) ∧ H' p = some (.lst (bv (nd + 1) f)) ∧ lv.length ≤ i ∧ MetI (kidF b (r.map (·.2))) (fun n => decide (n ∈ ls)) nd b i f lv)
    ⟨l1, [], _, none, none, none, rfl, s4, nl1H, nlp, f4, e4, Nat.le_refl _, MetI.start hkl⟩ (fun i σ' H' hi hP => ?_) (fun σ' H' hP => ?_)
  · obtain ⟨l, lv, f, y1, y2, y3, rfl, s5, nl, nlp, hl, hp, hlv, I⟩ := hP
    have hmd := s5 _ _ hM.d
    have hll5 := s5 _ _ hll
    have hlp := s5 _ _ hM.l
    have hi : i < nd := by omega
    walk_at "go"
    rw [show (nd : Int) - (i : Int) = ((nd - i : Nat) : Int) by omega]
    refine g_ixL (SqL.of hp) (at_z (j := nd - i) rfl (bv_at (by omega))) ?_
    have hh := I.here hkl hi
    have hno : ¬ Rch (kidF b (r.map (·.2))) (fun n => decide (n ∈ ls)) nd (nd - i) → ∃ (l2 : Addr) (lv2 : List Nat) (f : Nat → Bool) (z1 z2 z3 : Option V), ([some (.ref m), some (.int (nd : Int)), some (.ref ll), some (.ref p), some (.ref l), some (.int (i : Int)), some (.int ((nd - i : Nat) : Int)), y3] : L2.St) = [some (.ref m), some (.int (nd : Int)), some (.ref ll), some (.ref p), some (.ref l2), z1, z2, z3] ∧ Same H H' ∧ H l2 = none ∧ l2 ≠ p ∧ H' l2 = some (.lst (nv lv2)) ∧ H' p = some (.lst (bv (nd + 1) f)) ∧ lv2.length ≤ i + 1 ∧ MetI (kidF b (r.map (·.2))) (fun n => decide (n ∈ ls)) nd b (i + 1) f lv2 :=
      fun hn => ⟨l, lv, f, _, _, _, rfl, s5, nl, nlp, hl, hp, by omega, I.no hi hn⟩
    cases hf : f (nd - i) with
    | false =>
      walk_at "go"
      exact hno fun h => by rw [← hh, hf] at h; simp at h
    | true =>
      walk_at "go"
      refine g_ninN (SqL.of hll5) ?_
      walk_at "go"
      refine g_iteN (fun e => ?_) (fun e => ?_)
      · have hR := hh.mp (by rw [hf]; simp [e])
        walk_at "go"
        refine g_ite (fun e2 => ?_) (fun e2 => ?_)
        · walk_at "go"
          refine ⟨sz_le (n := 1) (by decide), fun p2 np2 => ?_⟩
          have s6 := same_new (o := .lst [V.int ((nd - i : Nat) : Int)]) np2
          have e6 : upd H' p2 (.lst [V.int ((nd - i : Nat) : Int)]) p2 = some (.lst (nv [nd - i])) := upd_same
          have np2H := s5.free np2
          generalize upd H' p2 (.lst [V.int ((nd - i : Nat) : Int)]) = H6 at s6 e6 ⊢
          have hl6 := s6 _ _ hl
          have hp6 := s6 _ _ hp
          walk_at "go"
          refine g_cat e6 hl6 (by rw [nv_len, nv_len]; simp; omega) fun p3 np3 => ?_
          rw [← nv_app]
          have s7 := same_new (o := .lst (nv ([nd - i] ++ lv))) np3
          walk_at "go"
          exact ⟨p3, _, f, _, _, _, rfl, s5.trans (s6.trans s7), s5.free (s6.free np3), (ne_of_none hp6 np3).symm, upd_same, s7 _ _ hp6, by simp; omega, I.low hi hR (by omega) (kidF_lo (by omega))⟩
        · have hj : nd - i - b < r.length := by omega
          have hu : r[nd - i - b]? = some r[nd - i - b] := List.getElem?_eq_getElem hj
          generalize r[nd - i - b] = u at hu
          have hup := s5 _ _ (hM.p u (List.mem_of_getElem? hu))
          have hpu : (r.map (·.2))[nd - i - b]? = some u.2 := by rw [List.getElem?_map, hu]; rfl
          have hkid := kidF_hi (t := u.2) (n := nd - i) (b := b) (by omega) hpu
          have hlt := hkl (nd - i)
          rw [hkid] at hlt
          have h1 := hlt _ List.mem_cons_self
          have h2 := hlt _ (List.mem_cons_of_mem _ List.mem_cons_self)
          have npH2 : H p = none := npH
          walk_at "go"
          refine g_ixL (SqL.of hlp) (v := .ref u.1) (at_z (j := nd - i - b) (by omega) (by rw [List.getElem?_map, hu]; rfl)) ?_
          walk_at "go"
          rw [nat_half]
          refine g_setL hp (n := u.2.1 / 2) (by rw [bv_len]; exact ixN_here (by omega)) bv_set ?_
          have s6 : Same H (upd H' p (.lst (bv (nd + 1) fun x => decide (x = u.2.1 / 2) || f x))) := same_mut s5 npH
          have hup6 : upd H' p (.lst (bv (nd + 1) fun x => decide (x = u.2.1 / 2) || f x)) u.1 = some (.tup [.int (u.2.1 : Int), .int (u.2.2 : Int)]) := by
            rw [upd_ne fun e => by rw [e, hp] at hup; cases hup]; exact hup
          have hp6 : upd H' p (.lst (bv (nd + 1) fun x => decide (x = u.2.1 / 2) || f x)) p = some (.lst (bv (nd + 1) fun x => decide (x = u.2.1 / 2) || f x)) := upd_same
          have hl6 : upd H' p (.lst (bv (nd + 1) fun x => decide (x = u.2.1 / 2) || f x)) l = some (.lst (nv lv)) := by rw [upd_ne nlp]; exact hl
          generalize upd H' p (.lst (bv (nd + 1) fun x => decide (x = u.2.1 / 2) || f x)) = H6 at s6 hup6 hp6 hl6 ⊢
          walk_at "go"
          rw [nat_half]
          refine g_setL hp6 (n := u.2.2 / 2) (by rw [bv_len]; exact ixN_here (by omega)) bv_set ?_
          walk_at "go"
          exact ⟨l, lv, _, _, _, _, rfl, same_mut s6 npH, nl, nlp, by rw [upd_ne nlp]; exact hl6, upd_same, by omega, I.high hi hR (by omega) hkid⟩
      · walk_at "go"
        exact hno fun h => by rw [← hh, hf] at h; simp [e] at h
  · obtain ⟨l, lv, f, y1, y2, y3, rfl, s5, nl, nlp, hl, hp, hlv, I⟩ := hP
    walk_at "go"
    refine q l lv H' s5 nl hl I.a fun x => ?_
    rw [I.m, Int.toNat_natCast]
    constructor
    · rintro ⟨a, c, d⟩; exact ⟨a, by omega, d⟩
    · rintro ⟨a, c, d⟩; exact ⟨a, by omega, d⟩
theorem ok__law_value (T : Txt K mg dA)  {f : Addr} {fd : FuncData} (F : Fun K "_law_value" "_law_value" s__law_value f fd) : FnOk P w K mg base CX0 1 f fd ["made", "chosen", "literal"] spVal := by
  refine F.ok sc__law_value (fun vs H Q E h => ?_) (fun cdv A outer s H vs Q E hr h => ?_)
  · obtain ⟨m, lp, da, b, r, n, vc, ex, d, kvs, ch, L, rfl, _⟩ := h
    rfl
  obtain ⟨m, lp, da, b, r, n, vc, ex, d, kvs, ch, L, rfl, hM, hb2, hr2, hd, hch, hL, q⟩ := h
  refine ⟨_, (pss_cons (ps_setLc (i := 3) (own := [("node", 7)]) rfl sc__law_value.nd rfl rfl (sw_true rfl rfl rfl (by decide +kernel)) (pi_range1 (by rfl) T.b_range (pa_cons (pe_dget (hu_of hr) (pv 0) pe_str (fun _ _ => rfl)) pa_nil)) (blkOk_by (own := [("node", 7)]) (N := ["made", "chosen", "literal", "values", "x", "y", "value", "node"]) (sc := defScope s__law_value) (by decide +kernel)) (fun _ _ _ _ _ => (pg_name (i := 7) sc__law_value.nd rfl (.inl rfl))) (fun _ _ _ _ _ => pts_nil) (fun _ _ _ _ _ => (pe_dget2 (hu_of hr) (pv 1) (pv 7) pe_int ⟨by rfl, by rfl, by rfl, by rfl⟩)))
      (Evl.pss_cut (ps_for PassesOwn.never rfl (kpi_list K (pe_dget (hu_of hr) (pv 0) pe_str (fun _ _ => rfl))) (kpg_tup K (n := 2) (by rfl) (pgs_cons (pg_name (i := 4) sc__law_value.nd rfl (.inl rfl)) (pgs_cons (pg_name (i := 5) sc__law_value.nd rfl (.inl rfl)) pgs_nil))) (pss_cons (ps_set (i := 6) sc__law_value.nd rfl (.inl rfl) (pe_op op_and (pe_op op_xor (pe_ix (kix_list K) (pv 3) (pe_op op_fdiv (pv 4) pe_int) (fun _ _ => rfl)) (pe_op op_and (pv 4) pe_int)) (pe_op op_xor (pe_ix (kix_list K) (pv 3) (pe_op op_fdiv (pv 5) pe_int) (fun _ _ => rfl)) (pe_op op_and (pv 5) pe_int))))
      (pss_one (ps_expr (kpe_bm K PySem.F.plainAttrs_list PySem.F.slot_list_append PySem.F.type_list_append mt_append (pv 3) (pa_cons (pe_dget2 (hu_of hr) (pv 1) (pe_callB (kcall_len_seq K) (by rfl) T.b_len (by decide +kernel) (pa_cons (pv 3) pa_nil)) (pv 6) ⟨by rfl, by rfl, by rfl, by rfl⟩) pa_nil))))))
      (pss_one (ps_ret (pe_op op_xor (pe_ix (kix_list K) (pv 3) (pe_op op_fdiv (pv 2) pe_int) (fun _ _ => rfl)) (pe_op op_and (pv 2) pe_int)))))), ?_⟩
  rw [show (L2.start ["made", "chosen", "literal", "values", "x", "y", "value", "node"] [.ref m, .ref d, .int (L : Int)] : L2.St) = [some (.ref m), some (.ref d), some (.int (L : Int)), none, none, none, none, none] from rfl]
  try simp only [WL.cxK]
  have hmd := hM.d
  walk_at "go"
  refine f_lcR (z := (b : Int)) (by omega) (by omega) (fun D i H' => H' = upd H D (.lst ((vbase ch i).map tn))) (fun D nD => rfl) (fun D i H' nD hi hP => ?_) (fun D H' nD hP => ?_)
  · subst hP
    have hd2 := same_new nD (o := .lst ((vbase ch i).map tn)) _ _ hd
    walk_at "go"
    refine ⟨rfl, ?_⟩
    walk_at "go"
    refine ⟨d, rfl, .inl ⟨kvs, .inl hd2⟩, ?_⟩
    walk_at "go"
    refine ⟨_, DGet.k (k := .inl (i : Int)) hd2, _, upd_same, by rw [List.length_map, vbase, List.length_map, List.length_range]; exact sz_lt (by omega), ?_⟩
    rw [hch, show V.int 0 = tn false from rfl, getD_tn, upd_upd, vbase, vbase, List.range_succ, List.map_append, List.map_append]
    rfl
  subst hP
  rw [Int.toNat_natCast]
  have s1 := same_new nD (o := .lst ((vbase ch b).map tn))
  have e1 : upd H D (.lst ((vbase ch b).map tn)) D = some (.lst ((vals ch b []).map tn)) := upd_same
  generalize upd H D (.lst ((vbase ch b).map tn)) = H1 at s1 e1 ⊢
  have hmd1 := s1 _ _ hmd
  have hl1 := s1 _ _ hM.l
  walk_at "go"
  refine ⟨fun σ' H' => ∃ (y1 y2 y3 : Option V), σ' = [some (.ref m), some (.ref d), some (.int (L : Int)), some (.ref D), y1, y2, y3, none] ∧ Same H H' ∧ H' D = some (.lst ((vals ch b (r.map (·.2))).map tn)), ?_, fun σ' H' hW => ?_⟩
  · walk_at "go"
    refine f_list (SqL.of hl1) (fun i σ' H' => ∃ (y1 y2 y3 : Option V), σ' = [some (.ref m), some (.ref d), some (.int (L : Int)), some (.ref D), y1, y2, y3, none] ∧ Same H H' ∧ H' D = some (.lst ((vals ch b ((r.map (·.2)).take i)).map tn)))
      ⟨none, none, none, rfl, s1, e1⟩ (fun i σ' H' _ hP => ?_) (fun i x σ' H' hx hP => ?_) (fun σ' H' hP => ?_)
    · obtain ⟨y1, y2, y3, rfl, s2, hD⟩ := hP
      exact SqL.of (s2 _ _ hM.l)
    · obtain ⟨y1, y2, y3, rfl, s2, hD⟩ := hP
      obtain ⟨u, hu, rfl⟩ := map_atG hx
      have hi := lt_at hu
      have hup := s2 _ _ (hM.p u (List.mem_of_getElem? hu))
      have hpu : (r.map (·.2))[i]? = some u.2 := by rw [List.getElem?_map, hu]; rfl
      have hk := hM.ok i u.2 hpu
      have htl : ((r.map (·.2)).take i).length = i := by rw [List.length_take, List.length_map]; omega
      have hd2 := s2 _ _ hd
      walk_at "go"
      rw [nat_half]
      refine g_ixL (SqL.of hD) (at_z (j := u.2.1 / 2) rfl (vals_at (by omega))) ?_
      walk_at "go"
      unfold tn
      walk_at "go"
      rw [tn_odd, tn_xor, nat_half]
      refine g_ixL (SqL.of hD) (at_z (j := u.2.2 / 2) rfl (vals_at (by omega))) ?_
      unfold tn
      walk_at "go"
      rw [tn_odd, tn_xor, tn_and]
      refine ⟨d, rfl, .inl ⟨kvs, .inl hd2⟩, ?_⟩
      walk_at "go"
      rw [List.length_map, vals_len _ _ rfl, htl]
      refine ⟨_, DGet.k (k := .inl ((b + i : Nat) : Int)) hd2, ?_⟩
      walk_at "go"
      refine g_app hD (by rw [List.length_map, vals_len _ _ rfl, htl]; exact sz_lt (by omega)) ?_
      refine ⟨_, _, _, rfl, same_mut s2 nD, ?_⟩
      rw [upd_same, List.take_succ, hpu, Option.toList_some, vals_snoc, vstep, List.map_append, vals_len _ _ rfl, htl, hch]
      refine congrArg (fun z => some (HO.lst (_ ++ [z]))) ?_
      exact getD_tn (ch (b + i)) _
    · obtain ⟨y1, y2, y3, rfl, s2, hD⟩ := hP
      rw [List.length_map] at hD
      rw [List.take_of_length_le (by rw [List.length_map]; exact Nat.le_refl _)] at hD
      exact ⟨_, _, _, rfl, s2, hD⟩
  obtain ⟨y1, y2, y3, rfl, s2, hD⟩ := hW
  walk_at "go"
  rw [nat_half]
  refine g_ixL (SqL.of hD) (at_z (j := L / 2) rfl (vals_at (by rw [List.length_map]; exact hL))) ?_
  unfold tn
  walk_at "go"
  rw [tn_odd, tn_xor]
  exact q H' s2
end K22
set_option Elab.async false
set_option linter.all false
set_option maxRecDepth 100000
set_option maxHeartbeats 4000000
namespace K22
open PySem PySem.Spec PyProof.Rows L2 WL
local macro_rules | `(tactic| walk_at "lk") => `(tactic| first
  | apply upd_same
  | assumption
  | (rw [upd_ne (by assumption)]; first | exact upd_same | assumption | (rw [upd_ne (by assumption)]; first | exact upd_same | assumption | (rw [upd_ne (by assumption)]; first | exact upd_same | assumption))))
local macro_rules | `(tactic| walk_at "go1") => `(tactic| first
  | (with_reducible refine g_seq ?_)
  | (with_reducible refine g_asg ?_)
  | (with_reducible refine g_name ?_)
  | (with_reducible refine g_sub ?_)
  | ((with_reducible refine' g_var ?gv ?_); (case gv => apply Eq.refl))
  | (with_reducible refine g_c ?_)
  | (with_reducible refine g_op ?_)
  | (with_reducible refine g_un ?_)
  | (with_reducible refine g_I0 ?_)
  | ((with_reducible refine g_I ?gc ?_); (case gc => first | assumption | decide | (show (0 : Int) < _; omega) | refine Or.inr ⟨by omega, by omega⟩ | refine Or.inl ⟨by omega, by omega⟩ | refine ⟨by omega, by omega⟩))
  | (with_reducible refine iteT ?_)
  | (with_reducible refine iteF ?_)
  | (with_reducible refine iteNT ?_)
  | (with_reducible refine iteNF ?_)
  | (with_reducible refine g_andV ?_)
  | (with_reducible refine g_orV ?_)
  | ((with_reducible refine' g_lenS (by assumption) ?_))
  | ((with_reducible refine' g_lenS (SqL.of (by walk_at "lk")) ?_))
  | (with_reducible refine g_U ?_)
  | ((with_reducible refine' g_eq ?gs ?_); (case gs => rfl))
  | ((with_reducible refine g_ne ?gs ?_); (case gs => rfl))
  | (with_reducible refine g_drop ?_)
  | (with_reducible refine g_ret ?_)
  | (with_reducible refine g_next ?_)
  | (with_reducible refine g_ifS ?_)
  | (with_reducible refine g_ifE ?_)
  | (with_reducible refine g_test ?_)
  | (with_reducible refine g_tb ?_)
  | (with_reducible refine g_bl ?_)
  | (with_reducible refine g_not ?_)
  | (with_reducible refine g_and ?_)
  | (with_reducible refine g_or ?_)
  | (with_reducible refine g_nil ?_)
  | (with_reducible refine g_cons ?_)
  | (with_reducible refine g_cb ?_)
  | (with_reducible refine g_call ?_)
  | (with_reducible refine g_int ?_)
  | (with_reducible refine g_two ?_)
  | ((with_reducible refine g_lenStr ?gz ?_); (case gz => first | assumption | exact sz_le (by omega)))
  | (with_reducible refine g_m1 ?_)
  | (with_reducible refine g_isS ?_)
  | (with_reducible refine g_nn ?_)
  | (with_reducible refine g_yes ?_)
  | (with_reducible refine g_for ?_)
  | (with_reducible refine g_ckw ?_)
  | (with_reducible refine g_chain ?_)
  | (with_reducible refine g_gcons ?_)
  | (with_reducible refine g_gnil ?_)
  | (with_reducible refine g_notV ?_)
  | (with_reducible refine g_iZip ?_)
  | (with_reducible refine g_lc ?_)
  | (with_reducible refine g_lc2 ?_)
  | (with_reducible refine g_iList ?_)
  | (with_reducible refine g_iRng1 ?_)
  | (with_reducible refine g_iRng2 ?_)
  | (with_reducible refine g_sl ?_)
  | (with_reducible refine g_noPart ?_)
  | (with_reducible refine g_part ?_)
  | (with_reducible refine g_ex1 ?_)
  | (with_reducible refine g_bm ?_)
  | ((with_reducible refine' g_tyL (by walk_at "lk") ?_))
  | ((with_reducible refine' g_aug ?gv ?_); (case gv => exact rfl))
  | (with_reducible refine g_ipI ?_)
  | (with_reducible refine g_turn ?_)
  | (with_reducible refine g_brk ?_)
  | (with_reducible refine g_cont ?_)
  | (with_reducible refine g_sign ?_)
  | (with_reducible refine g_lst ?_)
  | (with_reducible refine g_tup ?_)
  | ((with_reducible refine' g_ixL (by assumption) ?ga ?_); (case ga => assumption))
  | ((with_reducible refine' g_ixL (SqL.of (by walk_at "lk")) ?ga ?_); (case ga => first | exact rfl | assumption))
  | ((with_reducible refine' g_ixT (SqT.of (by walk_at "lk")) ?ga ?_); (case ga => first | exact rfl | assumption))
  | ((with_reducible refine' g_lenT (SqT.of (by walk_at "lk")) ?_))
  | ((with_reducible refine' g_isiS (b := true) ?ga ?_); (case ga => decide +kernel))
  | ((with_reducible refine' g_isiS (b := false) ?ga ?_); (case ga => decide +kernel))
  | ((with_reducible refine' g_isiI (b := true) ?ga ?_); (case ga => decide +kernel))
  | ((with_reducible refine' g_isiI (b := false) ?ga ?_); (case ga => decide +kernel))
  | ((with_reducible refine' g_setL2 ?ga ?gb ?_); (case ga => exact rfl); (case gb => exact rfl))
  | ((with_reducible refine' g_setL (by walk_at "lk") ?ga ?gb ?_); (case ga => exact rfl); (case gb => exact rfl)))
local macro_rules | `(tactic| walk_at "go") => `(tactic| ((repeat walk_at "go1"); try dsimp only [List.set, List.cons_append, List.nil_append]))
local macro_rules | `(tactic| walk_at "go1") => `(tactic| first
  | (with_reducible refine WOwn.g_fl ?_)
  | (with_reducible refine WOwn.g_sfl ?_)
  | (with_reducible refine WOwn.g_make ?_)
  | (with_reducible refine WOwn.g_meth ?_)
  | (with_reducible refine WOwn.g_sm ?_)
  | (with_reducible refine WOwn.g_cv ?_))
local macro_rules | `(tactic| walk_at "go1") => `(tactic| first
  | (with_reducible refine WDict.g_dget ?_)
  | (with_reducible refine WDict.g_din ?_)
  | (with_reducible refine WDict.g_dnotin ?_)
  | (with_reducible refine WDict.g_dput ?_)
  | (with_reducible refine WDict.g_dnew ?_)
  | (with_reducible refine WDict.g_dget2 ?_)
  | (with_reducible refine WDict.g_dsetd ?_)
  | (with_reducible refine WDict.g_disp ?_)
  | (with_reducible refine WDict.g_pair ?_)
  | (with_reducible refine WDict.g_pair0 ?_)
  | (with_reducible refine WDict.g_tru ?_))
local macro_rules | `(tactic| walk_at "go1") => `(tactic| first
  | (with_reducible refine g_iEnum ?_)
  | (with_reducible refine g_iTup ?_)
  | (with_reducible refine g_bm0 ?_)
  | ((with_reducible refine' g_gTup (SqT.of (by walk_at "lk")) ?gn ?_); (case gn => exact rfl)))
local macro_rules | `(tactic| walk_at "go1") => `(tactic| first
  | (with_reducible refine WDict.g_getS (by walk_at "lk") bd1 ?_)
  | (with_reducible refine WDict.g_getS (by walk_at "lk") bd2 ?_)
  | (with_reducible refine WDict.g_getS (by walk_at "lk") bd3 ?_)
  | (with_reducible refine WDict.g_getS (by walk_at "lk") bd4 ?_)
  | (with_reducible refine WDict.g_getS (by walk_at "lk") bd5 ?_)
  | (with_reducible refine WDict.g_getS (by walk_at "lk") bd6 ?_))
local macro_rules | `(tactic| walk_at "go1") => `(tactic| first
  | (with_reducible refine WDict.g_getS (by walk_at "lk") md2 ?_)
  | (with_reducible refine WDict.g_getS (by walk_at "lk") md3 ?_)
  | (with_reducible refine WDict.g_getS (by walk_at "lk") md4 ?_)
  | (with_reducible refine WDict.g_getS (by walk_at "lk") md5 ?_))
section
variable {K : PySem.W.Frag} {H : Hp} {Q : VK} {x y : V} {d : PyData}
theorem g_eqSame (h1 : Dp K H x d) (h2 : Dp K H y d) (s : SeqAt.shaped d = true) (q : Q (.bl true) H) : rEqD K x y H Q := ⟨d, d, h1, h2, s, s, by rw [eqv_same s]; exact q⟩
theorem g_neSame (h1 : Dp K H x d) (h2 : Dp K H y d) (s : SeqAt.shaped d = true) (q : Q (.bl false) H) : rNeD K x y H Q := ⟨d, d, h1, h2, s, s, by rw [eqv_same s]; exact q⟩
end
def natsD (l : List Nat) : PyData := .list (l.map fun n : Nat => .int (n : Int))
theorem dp_nats {K : PySem.W.Frag} {H : Hp} {p : Addr} {l : List Nat} (h : SqL K H p (nv l)) : Dp K H (.ref p) (natsD l) := .lst h (by
  induction l with
  | nil => exact .nil
  | cons a r ih => exact .cons (.int _) (by
      have : ∀ l : List Nat, DpAll K H (nv l) (l.map fun n : Nat => .int (n : Int)) := fun l => by
        induction l with
        | nil => exact .nil
        | cons a r ih => exact .cons (.int _) ih
      exact this r))
theorem sh_nats (l : List Nat) : SeqAt.shaped (natsD l) = true := shaped_list (by
  induction l with
  | nil => rfl
  | cons a r ih => rw [List.map_cons, PyData.canLayAll0, ih, PyData.canLay0]; rfl) (by
  have : ∀ l : List Nat, PyData.depthAll (l.map fun n : Nat => PyData.int (n : Int)) = 0 := fun l => by
    induction l with
    | nil => rfl
    | cons a r ih => simp [PyData.depthAll, PyData.depth, ih]
  rw [this]; decide)
def spAsked (C : Addr) : Sp := fun vs H Q _ => ∃ (g : Addr) (b : Nat) (r : Pairs) (L : Nat) (ll : Addr) (ls : List Nat), vs = [.ref g, .int (L : Int), .ref ll] ∧ GOk C H g b r ∧ ROk b r ∧ 0 < b ∧ H ll = some (.lst (nv ls)) ∧ ls.Nodup ∧ (∀ x ∈ ls, x < b + r.length) ∧ L / 2 < b + r.length ∧ ls.length ≤ 1000 ∧
  (16 < ls.length → ∀ p H', Same H H' → H' p = some (.tup [.str (Str.ofString "wide"), .int (ls.length : Int), .int 16, .bl true]) → Q (.ref p) H') ∧
  (ls.length ≤ 16 → ∀ leaves : List Nat, leaves.Pairwise (· < ·) → (∀ x, x ∈ leaves ↔ Rch (kidF b (r.map (·.2))) (fun n => decide (n ∈ ls)) (L / 2) x ∧ 0 < x ∧ x < b) →
    (∀ m rest, leaves = m :: rest → ∀ p H', Same H H' → H' p = some (.tup [.str (Str.ofString "open"), .int (m : Int), .bl true]) → Q (.ref p) H') ∧
    (leaves = [] → ∀ (t : Nat) p H', Same H H' → H' p = some (.tup [.str (Str.ofString "table"), .int (t : Int)]) → t < 2 ^ 2 ^ ls.length → (∀ c, c < 2 ^ ls.length → t.testBit c = lit (chosen ls c) b (r.map (·.2)) L) → Q (.ref p) H'))
def spChoices : Sp := fun vs H Q _ => ∃ (c g : Addr) (k n : Nat), vs = [.ref g, .int (n : Int)] ∧ Bag c g k H ∧ k ≤ 50000 ∧ n ≤ 16 ∧
  ∀ (q : Addr) (cs : List Nat) (k' : Nat) H', Kp g H H' → Bag c g k' H' → k' ≤ k + 40 → H q = none → H' q = some (.lst (nv cs)) → (∀ x ∈ cs, x < 2 ^ n) → cs.length ≤ 100 → Q (.ref q) H'
variable {P : Program} {w : World} {K : PySem.W.Frag} {mg : Str → Option Value} {base : Heap} {dA : Nat → Addr}
theorem ok__law_asked (T : Txt K mg dA) (c_table_of : WExc.CalX P w K mg base 5 "table_of" (spTable (dA 200) (dA 100) (dA 101))) {f : Addr} {fd : FuncData} (F : Fun K "_law_asked" "_law_asked" s__law_asked f fd) : FnOk P w K mg base CX0 6 f fd ["graph", "literal", "leaves"] (spAsked (dA 200)) := by
  refine F.ok sc__law_asked (fun vs H Q E h => ?_) (fun cdv A outer s H vs Q E hr h => ?_)
  · obtain ⟨g, b, r, L, ll, ls, rfl, _⟩ := h
    rfl
  obtain ⟨g, b, r, L, ll, ls, rfl, hG, hR, hb0, hll, hnd, hlb, hL, hln, q1, q2⟩ := h
  refine ⟨_, (pss_one (WExc.kps_try K rfl rfl sc__law_asked.nd LamX.takes0 (fun W pn xe tk po => by exact (pss_one (ps_ret (pe_tup (pa_cons pe_str (pa_cons (WExc.pe_cT c_table_of hr (by decide) (by rfl) tk (by exact (pa_cons (pv 0) (pa_cons (pv 1) (pa_cons (pv 2) pa_nil))))) pa_nil)))))) (.cons (c := .ref (dA 100)) (i := 3) ⟨rfl, by decide, .inl T.gx_TooWide⟩ rfl rfl (fun a oe cls d pn hz hf => by exact (pss_cons (ps_set (i := 4) sc__law_asked.nd rfl (.inl rfl) (pe_and (pe_not (pe_callB (WExc.call_isD hz hf K) (by rfl) T.b_isinstance (by decide +kernel) (pa_cons (pv 3) (pa_cons (C8.pe_gc (by rfl) T.gc_NotACut) pa_nil)))) (pe_one (pe_not (pe_callB (WExc.call_isD hz hf K) (by rfl) T.b_isinstance (by decide +kernel) (pa_cons (pv 3) (pa_cons (C8.pe_gc (by rfl) T.gc_TooLarge) pa_nil)))))))
      (pss_one (ps_ret (pe_tup (pa_cons pe_str (pa_cons (WExc.pe_xg (K := K) hz hf (pv 3)) (pa_cons (WExc.pe_xg (K := K) hz hf (pv 3)) (pa_cons (pe_and (pv 4) (pe_and (pe_callB (WExc.call_isD hz hf K) (by rfl) T.b_isinstance (by decide +kernel) (pa_cons (pv 3) (pa_cons (C8.pe_gc (by rfl) T.gc_GatesError) pa_nil))) (pe_one (pe_callB (WExc.call_isD hz hf K) (by rfl) T.b_isinstance (by decide +kernel) (pa_cons (pv 3) (pa_cons (pe_bltn (v := .ty "ValueError") (by rfl) T.b_ValueError (by decide +kernel) rfl) pa_nil)))))) pa_nil))))))))) (.cons (c := .ref (dA 101)) (i := 3) ⟨rfl, by decide, .inl T.gx_NotACut⟩ rfl rfl (fun a oe cls d pn hz hf => by exact (pss_cons (ps_set (i := 4) sc__law_asked.nd rfl (.inl rfl) (pe_not (pe_callB (WExc.call_isD hz hf K) (by rfl) T.b_isinstance (by decide +kernel) (pa_cons (pv 3) (pa_cons (C8.pe_gc (by rfl) T.gc_TooLarge) pa_nil)))))
      (pss_one (ps_ret (pe_tup (pa_cons pe_str (pa_cons (WExc.pe_xg (K := K) hz hf (pv 3)) (pa_cons (pe_and (pv 4) (pe_and (pe_callB (WExc.call_isD hz hf K) (by rfl) T.b_isinstance (by decide +kernel) (pa_cons (pv 3) (pa_cons (C8.pe_gc (by rfl) T.gc_GatesError) pa_nil))) (pe_one (pe_callB (WExc.call_isD hz hf K) (by rfl) T.b_isinstance (by decide +kernel) (pa_cons (pv 3) (pa_cons (pe_bltn (v := .ty "ValueError") (by rfl) T.b_ValueError (by decide +kernel) rfl) pa_nil)))))) pa_nil)))))))) .nil)))), ?_⟩
  rw [show (L2.start ["graph", "literal", "leaves", "e", "alone"] [.ref g, .int (L : Int), .ref ll] : L2.St) = [some (.ref g), some (.int (L : Int)), some (.ref ll), none, none] from rfl]
  try simp only [WL.cxK]
  walk_at "go"
  refine WExc.g_try ?_
  walk_at "go"
  refine WExc.g_callS ?_
  walk_at "go"
  refine ⟨g, b, r, L, ll, ls, rfl, hG, hR, hb0, hll, hnd, hlb, hL, hln, fun hw d H1 s1 hd => ?_, fun hw lv ha hm => ?_⟩
  · refine ⟨true, T.em_TooWide_TooWide, fun _ a na => ?_, (fun h => by cases h)⟩
    walk_at "go"
    refine WExc.g_isD T.xe_TooWide hd WExc.rel_ref T.ki_TooWide_NotACut ?_
    walk_at "go"
    refine WExc.g_isD T.xe_TooWide hd WExc.rel_ref T.ki_TooWide_TooLarge ?_
    walk_at "go"
    refine WExc.g_xgo ?_
    walk_at "go"
    refine WExc.g_xg T.xf_TooWide T.xn_TooWide_count hd rfl ?_
    refine WExc.g_xgo ?_
    walk_at "go"
    refine WExc.g_xg T.xf_TooWide T.xn_TooWide_limit hd rfl ?_
    walk_at "go"
    refine WExc.g_isD T.xe_TooWide hd WExc.rel_ref T.ki_TooWide_GatesError ?_
    walk_at "go"
    refine WExc.g_isD T.xe_TooWide hd WExc.rel_ty T.ki_TooWide_ValueError ?_
    walk_at "go"
    refine ⟨sz_le (n := 4) (by simp), fun t nt => ?_⟩
    exact q1 hw t _ (s1.trans (same_new nt)) upd_same
  · obtain ⟨q3, q4⟩ := q2 hw lv ha hm
    refine ⟨fun m rest e d H1 s1 hd => ?_, fun e t H1 s1 h1 h2 => ?_⟩
    · refine ⟨false, T.em_NotACut_TooWide, (fun h => by cases h), fun _ => ?_⟩
      refine ⟨true, T.em_NotACut_NotACut, fun _ a na => ?_, (fun h => by cases h)⟩
      walk_at "go"
      refine WExc.g_isD T.xe_NotACut hd WExc.rel_ref T.ki_NotACut_TooLarge ?_
      walk_at "go"
      refine WExc.g_xgo ?_
      walk_at "go"
      refine WExc.g_xg T.xf_NotACut T.xn_NotACut_node hd rfl ?_
      walk_at "go"
      refine WExc.g_isD T.xe_NotACut hd WExc.rel_ref T.ki_NotACut_GatesError ?_
      walk_at "go"
      refine WExc.g_isD T.xe_NotACut hd WExc.rel_ty T.ki_NotACut_ValueError ?_
      walk_at "go"
      refine ⟨sz_le (n := 3) (by simp), fun t nt => ?_⟩
      exact q3 m rest e t _ (s1.trans (same_new nt)) upd_same
    · walk_at "go"
      refine ⟨sz_le (n := 2) (by simp), fun p np => ?_⟩
      exact q4 e t p _ (s1.trans (same_new np)) upd_same h1 h2
theorem ok__law_choices (T : Txt K mg dA) (c__law_draw : C8.Cal P w K mg base 1 "_law_draw" spDraw []) {f : Addr} {fd : FuncData} (F : Fun K "_law_choices" "_law_choices" s__law_choices f fd) : FnOk P w K mg base CX0 2 f fd ["bag", "count"] spChoices := by
  refine F.ok sc__law_choices (fun vs H Q E h => ?_) (fun cdv A outer s H vs Q E hr h => ?_)
  · obtain ⟨c, g, k, n, rfl, _⟩ := h
    rfl
  obtain ⟨c, g, k, n, rfl, hB, hk, hn, q⟩ := h
  refine ⟨_, (pss_cons (ps_if (pt_cmpR op_le (pv 1) pe_int (nomark _)) (pss_one (ps_ret (pe_lc (own := [("choice", 2)]) rfl sc__law_choices.nd (pi_range1 (by rfl) T.b_range (pa_cons (pe_op op_shl pe_int (pv 1)) pa_nil)) (blkOk_by (own := [("choice", 2)]) (N := ["bag", "count", "choice", "turn"]) (sc := defScope s__law_choices) (by decide +kernel)) (fun _ _ _ _ _ => (pg_name (i := 2) sc__law_choices.nd rfl (.inl rfl))) (fun _ _ _ _ _ => pts_nil) (fun _ _ _ _ _ => (pv 2))))) pss_nil)
      (pss_one (ps_ret (pe_op op_cat (pe_lst (pa_cons pe_int (pa_cons (pe_op op_sub (pe_op op_shl pe_int (pv 1)) pe_int) pa_nil))) (pe_lc (own := [("turn", 3)]) rfl sc__law_choices.nd (pi_range1 (by rfl) T.b_range (pa_cons pe_int pa_nil)) (blkOk_by (own := [("turn", 3)]) (N := ["bag", "count", "choice", "turn"]) (sc := defScope s__law_choices) (by decide +kernel)) (fun _ _ _ _ _ => (pg_name (i := 3) sc__law_choices.nd rfl (.inl rfl))) (fun _ _ _ _ _ => pts_nil) (fun _ _ _ _ _ => (C8.pe_c c__law_draw hr (by decide) (by rfl) (pa_cons (pv 0) (pa_cons (pe_op op_shl pe_int (pv 1)) pa_nil))))))))), ?_⟩
  rw [show (L2.start ["bag", "count", "choice", "turn"] [.ref g, .int (n : Int)] : L2.St) = [some (.ref g), some (.int (n : Int)), none, none] from rfl]
  try simp only [WL.cxK]
  have hp16 : (2 : Nat) ^ n ≤ 2 ^ 16 := Nat.pow_le_pow_right (by decide) hn
  have hp0 : 0 < (2 : Nat) ^ n := Nat.pow_pos (by decide)
  walk_at "go"
  refine g_ite (fun e => ?_) (fun e => ?_)
  · have hp6 : (2 : Nat) ^ n ≤ 2 ^ 6 := Nat.pow_le_pow_right (by decide) (by omega)
    walk_at "go"
    rw [one_shl]
    refine f_lcR (z := ((2 ^ n : Nat) : Int)) (by omega) (by omega) (fun D i H' => H' = upd H D (.lst (nv (List.range i)))) (fun D nD => rfl) (fun D i H' nD hi hP => ?_) (fun D H' nD hP => ?_)
    · subst hP
      walk_at "go"
      refine ⟨rfl, ?_⟩
      walk_at "go"
      refine ⟨_, upd_same, by rw [nv_len, List.length_range]; exact sz_lt (by omega), ?_⟩
      rw [upd_upd, List.range_succ, nv_app_one]
    · subst hP
      rw [Int.toNat_natCast]
      exact q D _ k _ (Kp.same (same_new nD)) (hB.same (same_new nD)) (by omega) nD upd_same (fun x hx => List.mem_range.mp hx) (by rw [List.length_range]; omega)
  · walk_at "go"
    rw [one_shl, show ((2 ^ n : Nat) : Int) - 1 = ((2 ^ n - 1 : Nat) : Int) by omega]
    refine ⟨sz_le (n := 2) (by simp), fun p np => ?_⟩
    have s1 := same_new (o := .lst [V.int 0, V.int ((2 ^ n - 1 : Nat) : Int)]) np
    have e1 : upd H p (.lst [V.int 0, V.int ((2 ^ n - 1 : Nat) : Int)]) p = some (.lst (nv [0, 2 ^ n - 1])) := upd_same
    have B1 := hB.same s1
    generalize upd H p (.lst [V.int 0, V.int ((2 ^ n - 1 : Nat) : Int)]) = H1 at s1 e1 B1 ⊢
    walk_at "go"
    refine f_lcR (z := 40) (by decide) (by decide) (fun D i H' => ∃ ls : List Nat, Kp g H H' ∧ Bag c g (k + i) H' ∧ H' p = some (.lst (nv [0, 2 ^ n - 1])) ∧ H' D = some (.lst (nv ls)) ∧ ls.length = i ∧ ∀ x ∈ ls, x < 2 ^ n) (fun D nD => ⟨[], Kp.same (s1.trans (same_new nD)), B1.same (same_new nD), same_new nD _ _ e1, upd_same, rfl, fun _ h => by cases h⟩) (fun D i H' nD hi hP => ?_) (fun D H' nD hP => ?_)
    · obtain ⟨ls, k2, B2, e2, hD, hl, hb⟩ := hP
      have npD : p ≠ D := ne_of_none e1 nD
      walk_at "go"
      refine ⟨rfl, ?_⟩
      walk_at "go"
      rw [one_shl]
      refine g_draw B2 (by omega) (by omega) (by omega) fun d H2 hd k3 B3 => ?_
      have e3 := B2.stay k3 e2 nl_
      have hD3 := B2.stay k3 hD nl_
      refine ⟨_, hD3, by rw [nv_len]; exact sz_lt (by omega), ls ++ [d], (k2.trans k3).mut (s1.free nD), B3.put (B1.nb nD).1 (B1.nb nD).2, by rw [upd_ne npD]; exact e3, by rw [upd_same, nv_app_one], by simp; omega, bd_one hb (by omega)⟩
    · obtain ⟨ls, k2, B2, e2, hD, hl, hb⟩ := hP
      refine g_cat e2 hD (by rw [nv_len, nv_len]; simp; omega) fun p2 np2 => ?_
      rw [← nv_app]
      refine q p2 _ _ _ (k2.trans (Kp.same (same_new np2))) (B2.same (same_new np2)) (by omega) (k2.free (B2.nb np2).1 np2) upd_same (fun x hx => ?_) (by simp; omega)
      rcases List.mem_append.mp hx with hx | hx
      · simp at hx
        omega
      · exact hb x hx
end K22
set_option Elab.async false
set_option linter.all false
set_option maxRecDepth 100000
set_option maxHeartbeats 4000000
namespace K22
open PySem PySem.Spec PyProof.Rows L2 WL
local macro_rules | `(tactic| walk_at "lk") => `(tactic| first
  | apply upd_same
  | assumption
  | (rw [upd_ne (by assumption)]; first | exact upd_same | assumption | (rw [upd_ne (by assumption)]; first | exact upd_same | assumption | (rw [upd_ne (by assumption)]; first | exact upd_same | assumption))))
local macro_rules | `(tactic| walk_at "go1") => `(tactic| first
  | (with_reducible refine g_seq ?_)
  | (with_reducible refine g_asg ?_)
  | (with_reducible refine g_name ?_)
  | (with_reducible refine g_sub ?_)
  | ((with_reducible refine' g_var ?gv ?_); (case gv => apply Eq.refl))
  | (with_reducible refine g_c ?_)
  | (with_reducible refine g_op ?_)
  | (with_reducible refine g_un ?_)
  | (with_reducible refine g_I0 ?_)
  | ((with_reducible refine g_I ?gc ?_); (case gc => first | assumption | decide | (show (0 : Int) < _; omega) | (show (0 : Int) ≤ _; omega) | refine Or.inr ⟨by omega, by omega⟩ | refine Or.inl ⟨by omega, by omega⟩ | refine ⟨by omega, by omega⟩))
  | (with_reducible refine iteT ?_)
  | (with_reducible refine iteF ?_)
  | (with_reducible refine iteNT ?_)
  | (with_reducible refine iteNF ?_)
  | (with_reducible refine g_andV ?_)
  | (with_reducible refine g_orV ?_)
  | ((with_reducible refine' g_lenS (by assumption) ?_))
  | ((with_reducible refine' g_lenS (SqL.of (by walk_at "lk")) ?_))
  | (with_reducible refine g_U ?_)
  | ((with_reducible refine' g_eq ?gs ?_); (case gs => rfl))
  | ((with_reducible refine g_ne ?gs ?_); (case gs => rfl))
  | (with_reducible refine g_drop ?_)
  | (with_reducible refine g_ret ?_)
  | (with_reducible refine g_next ?_)
  | (with_reducible refine g_ifS ?_)
  | (with_reducible refine g_ifE ?_)
  | (with_reducible refine g_test ?_)
  | (with_reducible refine g_tb ?_)
  | (with_reducible refine g_bl ?_)
  | (with_reducible refine g_not ?_)
  | (with_reducible refine g_and ?_)
  | (with_reducible refine g_or ?_)
  | (with_reducible refine g_nil ?_)
  | (with_reducible refine g_cons ?_)
  | (with_reducible refine g_cb ?_)
  | (with_reducible refine g_call ?_)
  | (with_reducible refine g_int ?_)
  | (with_reducible refine g_two ?_)
  | ((with_reducible refine g_lenStr ?gz ?_); (case gz => first | assumption | exact sz_le (by omega)))
  | (with_reducible refine g_m1 ?_)
  | (with_reducible refine g_isS ?_)
  | (with_reducible refine g_nn ?_)
  | (with_reducible refine g_yes ?_)
  | (with_reducible refine g_for ?_)
  | (with_reducible refine g_ckw ?_)
  | (with_reducible refine g_chain ?_)
  | (with_reducible refine g_gcons ?_)
  | (with_reducible refine g_gnil ?_)
  | (with_reducible refine g_notV ?_)
  | (with_reducible refine g_iZip ?_)
  | (with_reducible refine g_lc ?_)
  | (with_reducible refine g_lc2 ?_)
  | (with_reducible refine g_iList ?_)
  | (with_reducible refine g_iRng1 ?_)
  | (with_reducible refine g_iRng2 ?_)
  | (with_reducible refine g_sl ?_)
  | (with_reducible refine g_noPart ?_)
  | (with_reducible refine g_part ?_)
  | (with_reducible refine g_ex1 ?_)
  | (with_reducible refine g_bm ?_)
  | ((with_reducible refine' g_tyL (by walk_at "lk") ?_))
  | ((with_reducible refine' g_aug ?gv ?_); (case gv => exact rfl))
  | (with_reducible refine g_ipI ?_)
  | (with_reducible refine g_turn ?_)
  | (with_reducible refine g_brk ?_)
  | (with_reducible refine g_cont ?_)
  | (with_reducible refine g_sign ?_)
  | (with_reducible refine g_lst ?_)
  | (with_reducible refine g_tup ?_)
  | ((with_reducible refine' g_ixL (by assumption) ?ga ?_); (case ga => assumption))
  | ((with_reducible refine' g_ixL (SqL.of (by walk_at "lk")) ?ga ?_); (case ga => first | exact rfl | assumption))
  | ((with_reducible refine' g_ixT (SqT.of (by walk_at "lk")) ?ga ?_); (case ga => first | exact rfl | assumption))
  | ((with_reducible refine' g_lenT (SqT.of (by walk_at "lk")) ?_))
  | ((with_reducible refine' g_isiS (b := true) ?ga ?_); (case ga => decide +kernel))
  | ((with_reducible refine' g_isiS (b := false) ?ga ?_); (case ga => decide +kernel))
  | ((with_reducible refine' g_isiI (b := true) ?ga ?_); (case ga => decide +kernel))
  | ((with_reducible refine' g_isiI (b := false) ?ga ?_); (case ga => decide +kernel))
  | ((with_reducible refine' g_setL2 ?ga ?gb ?_); (case ga => exact rfl); (case gb => exact rfl))
  | ((with_reducible refine' g_setL (by walk_at "lk") ?ga ?gb ?_); (case ga => exact rfl); (case gb => exact rfl)))
local macro_rules | `(tactic| walk_at "go") => `(tactic| ((repeat walk_at "go1"); try dsimp only [List.set, List.cons_append, List.nil_append]))
local macro_rules | `(tactic| walk_at "go1") => `(tactic| first
  | (with_reducible refine WOwn.g_fl ?_)
  | (with_reducible refine WOwn.g_sfl ?_)
  | (with_reducible refine WOwn.g_make ?_)
  | (with_reducible refine WOwn.g_meth ?_)
  | (with_reducible refine WOwn.g_sm ?_)
  | (with_reducible refine WOwn.g_cv ?_))
local macro_rules | `(tactic| walk_at "go1") => `(tactic| first
  | (with_reducible refine WDict.g_dget ?_)
  | (with_reducible refine WDict.g_din ?_)
  | (with_reducible refine WDict.g_dnotin ?_)
  | (with_reducible refine WDict.g_dput ?_)
  | (with_reducible refine WDict.g_dnew ?_)
  | (with_reducible refine WDict.g_dget2 ?_)
  | (with_reducible refine WDict.g_dsetd ?_)
  | (with_reducible refine WDict.g_disp ?_)
  | (with_reducible refine WDict.g_pair ?_)
  | (with_reducible refine WDict.g_pair0 ?_)
  | (with_reducible refine WDict.g_tru ?_))
local macro_rules | `(tactic| walk_at "go1") => `(tactic| first
  | (with_reducible refine g_iEnum ?_)
  | (with_reducible refine g_iTup ?_)
  | (with_reducible refine g_bm0 ?_)
  | ((with_reducible refine' g_gTup (SqT.of (by walk_at "lk")) ?gn ?_); (case gn => exact rfl)))
local macro_rules | `(tactic| walk_at "go1") => `(tactic| first
  | (with_reducible refine WDict.g_getS (by walk_at "lk") bd1 ?_)
  | (with_reducible refine WDict.g_getS (by walk_at "lk") bd2 ?_)
  | (with_reducible refine WDict.g_getS (by walk_at "lk") bd3 ?_)
  | (with_reducible refine WDict.g_getS (by walk_at "lk") bd4 ?_)
  | (with_reducible refine WDict.g_getS (by walk_at "lk") bd5 ?_)
  | (with_reducible refine WDict.g_getS (by walk_at "lk") bd6 ?_))
local macro_rules | `(tactic| walk_at "go1") => `(tactic| first
  | (with_reducible refine WDict.g_getS (by walk_at "lk") md2 ?_)
  | (with_reducible refine WDict.g_getS (by walk_at "lk") md3 ?_)
  | (with_reducible refine WDict.g_getS (by walk_at "lk") md4 ?_)
  | (with_reducible refine WDict.g_getS (by walk_at "lk") md5 ?_))
theorem shaped_tuple {ds : List PyData} (h1 : PyData.canLayAll0 ds = true) (h2 : PyData.depthAll ds ≤ 60) : SeqAt.shaped (.tuple ds) = true := by
  unfold SeqAt.shaped; rw [Bool.and_eq_true]
  exact ⟨by rw [PyData.canLay0]; exact h1, decide_eq_true (by rw [PyData.depth]; omega)⟩
theorem sh_wide (n : Int) : SeqAt.shaped (.tuple [.str (Str.ofString "wide"), .int n, .int 16, .bool true]) = true := shaped_tuple (by
  have : PyData.strOk (Str.ofString "wide") = true := by decide +kernel
  simp [PyData.canLayAll0, PyData.canLay0, this]) (by simp [PyData.depthAll, PyData.depth])
theorem sh_open (n : Int) : SeqAt.shaped (.tuple [.str (Str.ofString "open"), .int n, .bool true]) = true := shaped_tuple (by
  have : PyData.strOk (Str.ofString "open") = true := by decide +kernel
  simp [PyData.canLayAll0, PyData.canLay0, this]) (by simp [PyData.depthAll, PyData.depth])
theorem shr_bit (t c : Nat) : Builtin.bitAnd ((t : Int) / 2 ^ (c : Int).toNat) 1 = (((t.testBit c).toNat : Nat) : Int) := by
  rw [Int.toNat_natCast, show (t : Int) / 2 ^ c = ((t / 2 ^ c : Nat) : Int) by simp, bitAnd_m1, Nat.testBit_eq_decide_div_mod_eq]
  generalize t / 2 ^ c = u
  have hh : (u : Int) % 2 = ((u % 2 : Nat) : Int) := by omega
  rw [hh]
  rcases (by omega : u % 2 = 0 ∨ u % 2 = 1) with h | h <;> rw [h] <;> rfl
theorem chosen_snoc {l : List Nat} {x c y : Nat} (hx : x ∉ l) : chosen (l ++ [x]) c y = if y = x then some (c.testBit l.length) else chosen l c y := by
  unfold chosen
  by_cases h : y = x
  · subst h
    rw [if_pos rfl]
    have : (l ++ [y]).idxOf? y = some l.length := by
      rw [List.idxOf?_eq_some_iff]
      refine ⟨by simp, by simp, fun j hj => ?_⟩
      rw [List.getElem_append_left hj]
      intro e
      have e2 : l[j] = y := by simpa using e
      exact hx (e2 ▸ List.getElem_mem hj)
    rw [this]; rfl
  · rw [if_neg h]
    congr 1
    rw [show (l ++ [x]).idxOf? y = l.idxOf? y from ?_]
    simp [List.idxOf?, List.findIdx?_append, h, Ne.symm h]
/-- what was told, by the cases -/
def Told (b : Nat) (ps : List (Nat × Nat)) (L : Nat) (ls : List Nat) (td : List V) : Prop :=
  (16 < ls.length → td = [.str (Str.ofString "wide"), .int (ls.length : Int), .int 16, .bl true]) ∧
  (ls.length ≤ 16 → ∀ leaves : List Nat, leaves.Pairwise (· < ·) → (∀ x, x ∈ leaves ↔ Rch (kidF b ps) (fun n => decide (n ∈ ls)) (L / 2) x ∧ 0 < x ∧ x < b) →
    (∀ m rest, leaves = m :: rest → td = [.str (Str.ofString "open"), .int (m : Int), .bl true]) ∧
    (leaves = [] → ∃ t : Nat, td = [.str (Str.ofString "table"), .int (t : Int)] ∧ t < 2 ^ 2 ^ ls.length ∧ ∀ c, c < 2 ^ ls.length → t.testBit c = lit (chosen ls c) b ps L))
def spRight (C : Addr) : Sp := fun vs H Q _ => ∃ (c g : Addr) (k : Nat) (gr m lp da : Addr) (b : Nat) (r : Pairs) (n : Int) (vc : V) (ex : List (Key × V)) (L : Nat) (ll : Addr) (ls : List Nat), vs = [.ref g, .ref gr, .ref m, .int (L : Int), .ref ll] ∧ Bag c g k H ∧ k ≤ 30000 ∧ GOk C H gr b r ∧ MA m lp da b r n vc ex H ∧ ROk b r ∧ 0 < b ∧ H ll = some (.lst (nv ls)) ∧ ls.Nodup ∧ (∀ x ∈ ls, x < b + r.length) ∧ L / 2 < b + r.length ∧ ls.length ≤ 60 ∧
  ∀ (k' : Nat) H', Kp g H H' → Bag c g k' H' → k' ≤ k + 60 → Q (.bl true) H'
def spLvR (C : Addr) : Sp := fun vs H Q _ => ∃ (gr m lp da : Addr) (b : Nat) (r : Pairs) (n : Int) (vc : V) (ex : List (Key × V)) (L : Nat), vs = [.ref gr, .ref m, .int (L : Int)] ∧ GOk C H gr b r ∧ MA m lp da b r n vc ex H ∧ ROk b r ∧ 0 < b ∧ L / 2 < b + r.length ∧
  ∀ H', Same H H' → Q (.bl true) H'
variable {P : Program} {w : World} {K : PySem.W.Frag} {mg : Str → Option Value} {base : Heap} {dA : Nat → Addr}
theorem ok__law_right (T : Txt K mg dA) (c__law_asked : C8.Cal P w K mg base 6 "_law_asked" (spAsked (dA 200)) []) (c__law_met : C8.Cal P w K mg base 1 "_law_met" spMet []) (c__law_choices : C8.Cal P w K mg base 2 "_law_choices" spChoices []) (c__law_is_number : C8.Cal P w K mg base 1 "_law_is_number" spNum []) (c__law_value : C8.Cal P w K mg base 1 "_law_value" spVal []) {f : Addr} {fd : FuncData} (F : Fun K "_law_right" "_law_right" s__law_right f fd) : FnOk P w K mg base CX0 7 f fd ["bag", "graph", "made", "literal", "leaves"] (spRight (dA 200)) := by
  refine F.ok sc__law_right (fun vs H Q E h => ?_) (fun cdv A outer s H vs Q E hr h => ?_)
  · obtain ⟨c, g, k, gr, m, lp, da, b, r, n, vc, ex, L, ll, ls, rfl, _⟩ := h
    rfl
  obtain ⟨c, g, k, gr, m, lp, da, b, r, n, vc, ex, L, ll, ls, rfl, hB, hk, hG, hM, hR, hb0, hll, hnd, hlb, hL, hln, q⟩ := h
  refine ⟨_, (pss_cons (ps_set (i := 5) sc__law_right.nd rfl (.inl rfl) (pe_callTy (kcall_list_of K) (by rfl) T.b_list (by decide +kernel) (pa_cons (pv 4) pa_nil)))
      (Evl.pss_cut (ps_set (i := 6) sc__law_right.nd rfl (.inl rfl) (C8.pe_c c__law_asked hr (by decide) (by rfl) (pa_cons (pv 1) (pa_cons (pv 3) (pa_cons (pv 5) pa_nil)))))
      (pss_cons (ps_if (PW.pt (pw_or (pt_cmpR (kop_neD K hr.units) (pv 5) (pv 4) (nomark _)) (pw_or1 (pt_not (pt_val (C8.pe_c c__law_is_number hr (by decide) (by rfl) (pa_cons (pe_ix (kix_tup K) (pv 6) pe_int (fun _ _ => rfl)) pa_nil))))))) (pss_one (ps_ret pe_bl)) pss_nil)
      (pss_cons (ps_set (i := 7) sc__law_right.nd rfl (.inl rfl) (pe_callB (kcall_len_seq K) (by rfl) T.b_len (by decide +kernel) (pa_cons (pv 4) pa_nil)))
      (pss_cons (ps_if (pt_cmpR op_gt (pv 7) pe_int (nomark _)) (pss_one (ps_ret (pe_and (pe_cmpR (kop_eqD K hr.units) (pv 6) (pe_tup (pa_cons pe_str (pa_cons (pv 7) (pa_cons pe_int (pa_cons pe_bl pa_nil))))) (nomark _)) (pe_one (C8.pe_c c__law_is_number hr (by decide) (by rfl) (pa_cons (pe_ix (kix_tup K) (pv 6) pe_int (fun _ _ => rfl)) pa_nil)))))) pss_nil)
      (pss_cons (ps_set (i := 8) sc__law_right.nd rfl (.inl rfl) (C8.pe_c c__law_met hr (by decide) (by rfl) (pa_cons (pv 2) (pa_cons (pe_op op_fdiv (pv 3) pe_int) (pa_cons (pv 4) pa_nil)))))
      (pss_cons (ps_if (pt_cmpR op_gt (pe_callB (kcall_len_seq K) (by rfl) T.b_len (by decide +kernel) (pa_cons (pv 8) pa_nil)) pe_int (nomark _)) (pss_one (ps_ret (pe_cmpR (kop_eqD K hr.units) (pv 6) (pe_tup (pa_cons pe_str (pa_cons (pe_ix (kix_list K) (pv 8) pe_int (fun _ _ => rfl)) (pa_cons pe_bl pa_nil)))) (nomark _)))) pss_nil)
      (pss_cons (ps_if (PW.pt (pw_or (pt_cmpR op_ne (pe_ix (kix_tup K) (pv 6) pe_int (fun _ _ => rfl)) pe_str (nomark _)) (pw_or (pt_cmpR op_lt (pe_ix (kix_tup K) (pv 6) pe_int (fun _ _ => rfl)) pe_int (nomark _)) (pw_or1 (pt_cmpR op_ne (pe_op op_shr (pe_ix (kix_tup K) (pv 6) pe_int (fun _ _ => rfl)) (pe_op op_shl pe_int (pv 7))) pe_int (nomark _)))))) (pss_one (ps_ret pe_bl)) pss_nil)
      (pss_cons (ps_for PassesOwn.never rfl (kpi_list K (C8.pe_c c__law_choices hr (by decide) (by rfl) (pa_cons (pv 0) (pa_cons (pv 7) pa_nil)))) (pg_name (i := 9) sc__law_right.nd rfl (.inl rfl)) (pss_cons (ps_set (i := 10) sc__law_right.nd rfl (.inl rfl) pe_dnewK)
      (Evl.pss_cut (ps_for PassesOwn.never rfl (pi_range1 (by rfl) T.b_range (pa_cons (pv 7) pa_nil)) (pg_name (i := 11) sc__law_right.nd rfl (.inl rfl)) (pss_one (ps_dput (hu_of hr) (pv 10) (pe_ix (kix_list K) (pv 4) (pv 11) (fun _ _ => rfl)) (pe_op op_and (pe_op op_shr (pv 9) (pv 11)) pe_int) (by rfl))))
      (pss_one (ps_if (pt_cmpR op_ne (pe_op op_and (pe_op op_shr (pe_ix (kix_tup K) (pv 6) pe_int (fun _ _ => rfl)) (pv 9)) pe_int) (C8.pe_c c__law_value hr (by decide) (by rfl) (pa_cons (pv 2) (pa_cons (pv 10) (pa_cons (pv 3) pa_nil)))) (nomark _)) (pss_one (ps_ret pe_bl)) pss_nil)))))
      (pss_one (ps_ret pe_bl))))))))))), ?_⟩
  rw [show (L2.start ["bag", "graph", "made", "literal", "leaves", "given", "told", "count", "met", "choice", "chosen", "place"] [.ref g, .ref gr, .ref m, .int (L : Int), .ref ll] : L2.St) = [some (.ref g), some (.ref gr), some (.ref m), some (.int (L : Int)), some (.ref ll), none, none, none, none, none, none, none] from rfl]
  try simp only [WL.cxK]
  walk_at "go"
  intro l1 nl1
  have s1 := same_new (o := .lst (nv ls)) nl1
  have e1 : upd H l1 (.lst (nv ls)) l1 = some (.lst (nv ls)) := upd_same
  generalize upd H l1 (.lst (nv ls)) = H1 at s1 e1 ⊢
  walk_at "go"
  refine ⟨fun σ' H' => ∃ (pt : Addr) (td : List V) (z : Int), σ' = [some (.ref g), some (.ref gr), some (.ref m), some (.int (L : Int)), some (.ref ll), some (.ref l1), some (.ref pt), none, none, none, none, none] ∧ Same H H' ∧ H' l1 = some (.lst (nv ls)) ∧ H' pt = some (.tup td) ∧ td[1]? = some (.int z) ∧ Told b (r.map (·.2)) L ls td, ?_, fun σ' H' hW => ?_⟩
  · walk_at "go"
    refine ⟨gr, b, r, L, l1, ls, rfl, hG.same s1, hR, hb0, e1, hnd, hlb, hL, by omega, fun hw p H2 s2 hp => ?_, fun hw lv ha hm => ⟨fun m' rest e p H2 s2 hp => ?_, fun e t p H2 s2 hp h1 h2 => ?_⟩⟩
    · walk_at "go"
      exact ⟨p, _, _, rfl, s1.trans s2, s2 _ _ e1, hp, rfl, fun _ => rfl, fun h => absurd h (by omega)⟩
    · walk_at "go"
      refine ⟨p, _, _, rfl, s1.trans s2, s2 _ _ e1, hp, rfl, fun h => absurd h (by omega), fun _ lv2 ha2 hm2 => ?_⟩
      have : lv2 = lv := asc_ext ha2 ha fun x => by rw [hm2, hm]
      subst this
      subst e
      exact ⟨(fun m2 rest2 e2 => by rw [(List.cons.inj e2).1]), fun e2 => by cases e2⟩
    · walk_at "go"
      refine ⟨p, _, _, rfl, s1.trans s2, s2 _ _ e1, hp, rfl, fun h => absurd h (by omega), fun _ lv2 ha2 hm2 => ?_⟩
      have : lv2 = lv := asc_ext ha2 ha fun x => by rw [hm2, hm]
      subst this
      subst e
      exact ⟨(fun m2 rest2 e2 => by cases e2), fun _ => ⟨t, rfl, h1, h2⟩⟩
  obtain ⟨pt, td, z, rfl, s2, e2, hpt, hz, ht⟩ := hW
  have hll2 := s2 _ _ hll
  walk_at "go"
  refine g_neSame (dp_nats (SqL.of e2)) (dp_nats (SqL.of hll2)) (sh_nats ls) ?_
  walk_at "go"
  refine g_ixT (SqT.of hpt) (v := .int z) (at_z (j := 1) rfl hz) ?_
  walk_at "go"
  refine ⟨z, rfl, ?_⟩
  walk_at "go"
  rw [nv_len]
  have B2 := hB.same s2
  have M2 := hM.same s2
  refine g_ite (fun e => ?_) (fun e => ?_)
  · have htd := ht.1 (by omega)
    subst htd
    walk_at "go"
    refine ⟨sz_le (n := 4) (by simp), fun p2 np2 => ?_⟩
    have s3 := same_new (o := .tup [V.str (Str.ofString "wide"), V.int (ls.length : Int), V.int 16, V.bl true]) np2
    have e3 : upd H' p2 (.tup [V.str (Str.ofString "wide"), V.int (ls.length : Int), V.int 16, V.bl true]) p2 = some (.tup [V.str (Str.ofString "wide"), V.int (ls.length : Int), V.int 16, V.bl true]) := upd_same
    have f3 := s3 _ _ hpt
    generalize upd H' p2 (.tup [V.str (Str.ofString "wide"), V.int (ls.length : Int), V.int 16, V.bl true]) = H3 at s3 e3 f3 ⊢
    have dd : ∀ q, H3 q = some (.tup [V.str (Str.ofString "wide"), V.int (ls.length : Int), V.int 16, V.bl true]) → Dp K H3 (.ref q) (.tuple [.str (Str.ofString "wide"), .int (ls.length : Int), .int 16, .bool true]) := fun q h => .tup (SqT.of h) (.cons (.str _) (.cons (.int _) (.cons (.int _) (.cons (.bl _) .nil))))
    refine g_eqSame (dd _ f3) (dd _ e3) ?_ ?_
    · exact sh_wide _
    walk_at "go"
    refine ⟨16, rfl, ?_⟩
    exact q k H3 (Kp.same (s2.trans s3)) (B2.same s3) (by omega)
  walk_at "go"
  rw [nat_half]
  refine ⟨m, lp, da, b, r, n, vc, ex, L / 2, ll, ls, rfl, M2, hb0, hR.1, hR.2.1, hL, hll2, fun qm lv H3 s3 nqm hqm ha hm => ?_⟩
  obtain ⟨t1, t2⟩ := ht.2 (by omega) lv ha hm
  walk_at "go"
  rw [nv_len]
  cases lv with
  | cons m0 rest =>
    have htd := t1 m0 rest rfl
    subst htd
    have hpt3 := s3 _ _ hpt
    refine g_ite (fun e => ?_) (fun e => absurd (by simp) e)
    walk_at "go"
    refine g_ixL (SqL.of hqm) (v := .int (m0 : Int)) (at_z (j := 0) rfl rfl) ?_
    walk_at "go"
    refine ⟨sz_le (n := 3) (by simp), fun p2 np2 => ?_⟩
    have s4 := same_new (o := .tup [V.str (Str.ofString "open"), V.int (m0 : Int), V.bl true]) np2
    have e4 : upd H3 p2 (.tup [V.str (Str.ofString "open"), V.int (m0 : Int), V.bl true]) p2 = some (.tup [V.str (Str.ofString "open"), V.int (m0 : Int), V.bl true]) := upd_same
    have f4 := s4 _ _ hpt3
    generalize upd H3 p2 (.tup [V.str (Str.ofString "open"), V.int (m0 : Int), V.bl true]) = H4 at s4 e4 f4 ⊢
    have dd : ∀ q, H4 q = some (.tup [V.str (Str.ofString "open"), V.int (m0 : Int), V.bl true]) → Dp K H4 (.ref q) (.tuple [.str (Str.ofString "open"), .int (m0 : Int), .bool true]) := fun q h => .tup (SqT.of h) (.cons (.str _) (.cons (.int _) (.cons (.bl _) .nil)))
    refine g_eqSame (dd _ f4) (dd _ e4) (sh_open _) ?_
    exact q k H4 (Kp.same (s2.trans (s3.trans s4))) (B2.same (s3.trans s4)) (by omega)
  | nil =>
    obtain ⟨t, htd, h1, h2⟩ := t2 rfl
    subst htd
    have hpt3 := s3 _ _ hpt
    refine g_ite (fun e => absurd e (by simp)) (fun e => ?_)
    have hp0 : (2 : Nat) ^ ls.length ≤ 2 ^ 16 := Nat.pow_le_pow_right (by decide) (by omega)
    walk_at "go"
    rw [decide_eq_true (rfl : V.str (Str.ofString "table") = V.str (Str.ofString "table"))]
    walk_at "go"
    rw [show decide ((t : Int) < 0) = false by simp]
    walk_at "go"
    rw [one_shl]
    refine g_I (show (0 : Int) ≤ ((2 ^ ls.length : Nat) : Int) from Int.natCast_nonneg _) ?_
    have ht0 : (t : Int) / 2 ^ ((2 ^ ls.length : Nat) : Int).toNat = 0 := by
      rw [Int.toNat_natCast, show (t : Int) / 2 ^ (2 ^ ls.length) = ((t / 2 ^ 2 ^ ls.length : Nat) : Int) by simp, Nat.div_eq_of_lt h1]
      rfl
    rw [ht0]
    walk_at "go"
    rw [decide_eq_true (rfl : V.int 0 = V.int 0)]
    walk_at "go"
    refine ⟨c, g, k, ls.length, rfl, B2.same s3, by omega, by omega, fun qc cs k4 H4 kp4 B4 hk4 nqc hqc hcs hcl => ?_⟩
    have st3 := s2.trans s3
    have hll4 := (B2.same s3).stay kp4 (s3 _ _ hll2) nl_
    have hpt4 := (B2.same s3).stay kp4 hpt3 nt_
    have M4 := (M2.same s3).kp kp4 (B2.same s3)
    refine f_list (SqL.of hqc) (fun i σ' H' => ∃ (y1 y2 y3 : Option V), σ' = [some (.ref g), some (.ref gr), some (.ref m), some (.int (L : Int)), some (.ref ll), some (.ref l1), some (.ref pt), some (.int (ls.length : Int)), some (.ref qm), y1, y2, y3] ∧ Same H4 H') ⟨none, none, none, rfl, fun _ _ h => h⟩ (fun i σ' H' _ hP => ?_) (fun i x σ' H' hx hP => ?_) (fun σ' H' hP => ?_)
    · obtain ⟨y1, y2, y3, rfl, s5⟩ := hP
      exact SqL.of (s5 _ _ hqc)
    · obtain ⟨y1, y2, y3, rfl, s5⟩ := hP
      obtain ⟨ch, hch, rfl⟩ := at_nv hx
      have hcb := hcs ch (List.mem_of_getElem? hch)
      walk_at "go"
      intro dc ndc
      have s6 := s5.trans (same_new (o := .dK []) ndc)
      have e6 : upd H' dc (.dK []) dc = some (.dK []) := upd_same
      have ndc4 := s5.free ndc
      generalize upd H' dc (.dK []) = H6 at s6 e6 ⊢
      walk_at "go"
      refine ⟨fun σ' H' => ∃ (y3 : Option V) (kvs : List (Key × V)), σ' = [some (.ref g), some (.ref gr), some (.ref m), some (.int (L : Int)), some (.ref ll), some (.ref l1), some (.ref pt), some (.int (ls.length : Int)), some (.ref qm), some (.int (ch : Int)), some (.ref dc), y3] ∧ Same H4 H' ∧ H' dc = some (.dK kvs) ∧ ∀ n : Nat, valV kvs (.inl (n : Int)) = (chosen ls ch n).map tn, ?_, fun σ' H' hW => ?_⟩
      · walk_at "go"
        refine f_rng1 (z := (ls.length : Int)) (by omega) (by omega) (fun i σ' H' => ∃ (y3 : Option V) (kvs : List (Key × V)), σ' = [some (.ref g), some (.ref gr), some (.ref m), some (.int (L : Int)), some (.ref ll), some (.ref l1), some (.ref pt), some (.int (ls.length : Int)), some (.ref qm), some (.int (ch : Int)), some (.ref dc), y3] ∧ Same H4 H' ∧ H' dc = some (.dK kvs) ∧ kvs.length ≤ i ∧ ∀ n : Nat, valV kvs (.inl (n : Int)) = (chosen (ls.take i) ch n).map tn)
          ⟨_, [], rfl, s6, e6, Nat.le_refl _, fun n => by rw [List.take_zero]; rfl⟩ (fun i σ' H' hi hP => ?_) (fun σ' H' hP => ?_)
        · obtain ⟨y3, kvs, rfl, s7, e7, hk7, hv7⟩ := hP
          have hil : i < ls.length := by omega
          have hx7 : ls[i]? = some ls[i] := List.getElem?_eq_getElem hil
          have hxn : ls[i] ∉ ls.take i := fun h => by
            obtain ⟨j, hj, e⟩ := List.getElem_of_mem h
            rw [List.getElem_take] at e
            have hjl : j < i := by rw [List.length_take] at hj; omega
            have h9 := List.pairwise_iff_getElem.mp (List.nodup_iff_pairwise_ne.mp hnd) j i (by omega) hil hjl
            exact h9 e
          generalize ls[i] = x at hx7 hxn
          have hll7 := s7 _ _ hll4
          walk_at "go"
          rw [shr_bit]
          refine g_ixL (SqL.of hll7) (v := .int (x : Int)) (at_z (j := i) rfl (nv_at hx7)) ?_
          walk_at "go"
          refine WDict.g_putI e7 (sz_lt (by omega)) ?_
          refine ⟨_, _, rfl, same_mut s7 ndc4, upd_same, by have := WDict.putK_le kvs (.inl (x : Int)) (.int (((ch.testBit i).toNat : Nat) : Int)); omega, fun n => ?_⟩
          rw [List.take_succ, hx7, Option.toList_some, chosen_snoc hxn, List.length_take, Nat.min_eq_left (by omega)]
          by_cases e : n = x
          · subst e
            rw [WDict.valV_put1, if_pos rfl]; rfl
          · rw [WDict.valV_put2 (WDict.inl_ne e), if_neg e]
            exact hv7 n
        · obtain ⟨y3, kvs, rfl, s7, e7, hk7, hv7⟩ := hP
          rw [Int.toNat_natCast, List.take_length] at hv7
          exact ⟨y3, kvs, rfl, s7, e7, hv7⟩
      obtain ⟨y3, kvs, rfl, s7, e7, hv7⟩ := hW
      have hpt7 := s7 _ _ hpt4
      have M7 := M4.same s7
      walk_at "go"
      rw [shr_bit]
      refine ⟨m, lp, da, b, r, n, vc, ex, dc, kvs, chosen ls ch, L, rfl, M7, hR.1, hR.2.1, e7, hv7, hL, fun H8 s8 => ?_⟩
      rw [h2 ch hcb]
      unfold tn
      walk_at "go"
      refine g_iteNI (fun e => absurd rfl e) (fun _ => ?_)
      walk_at "go"
      exact ⟨_, _, _, rfl, s7.trans s8⟩
    · obtain ⟨y1, y2, y3, rfl, s5⟩ := hP
      walk_at "go"
      exact q k4 H' ((Kp.same st3).trans (kp4.trans (Kp.same s5))) (B4.same s5) (by omega)
theorem ok__law_leaves_right (T : Txt K mg dA) (c__law_met : C8.Cal P w K mg base 1 "_law_met" spMet []) (c_leaves_of : C8.Cal P w K mg base 5 "leaves_of" (spLeaves (dA 200)) []) (c__law_is_number : C8.Cal P w K mg base 1 "_law_is_number" spNum []) {f : Addr} {fd : FuncData} (F : Fun K "_law_leaves_right" "_law_leaves_right" s__law_leaves_right f fd) : FnOk P w K mg base CX0 6 f fd ["graph", "made", "literal"] (spLvR (dA 200)) := by
  refine F.ok sc__law_leaves_right (fun vs H Q E h => ?_) (fun cdv A outer s H vs Q E hr h => ?_)
  · obtain ⟨gr, m, lp, da, b, r, n, vc, ex, L, rfl, _⟩ := h
    rfl
  obtain ⟨gr, m, lp, da, b, r, n, vc, ex, L, rfl, hG, hM, hR, hb0, hL, q⟩ := h
  refine ⟨_, (pss_cons (ps_set (i := 3) sc__law_leaves_right.nd rfl (.inl rfl) (C8.pe_c c__law_met hr (by decide) (by rfl) (pa_cons (pv 1) (pa_cons (pe_op op_fdiv (pv 2) pe_int) (pa_cons (pe_lst pa_nil) pa_nil)))))
      (pss_cons (ps_set (i := 4) sc__law_leaves_right.nd rfl (.inl rfl) (C8.pe_c c_leaves_of hr (by decide) (by rfl) (pa_cons (pv 0) (pa_cons (pv 2) pa_nil))))
      (pss_cons (ps_if (PW.pt (pw_or (pt_not (pt_val (pe_callB (kcall_isi K) (by rfl) T.b_isinstance (by decide +kernel) (pa_cons (pv 4) (pa_cons (pe_bltn (v := .ty "list") (by rfl) T.b_list (by decide +kernel) rfl) pa_nil))))) (pw_or1 (pt_cmpR op_gt (pe_callB (kcall_len_seq K) (by rfl) T.b_len (by decide +kernel) (pa_cons (pe_lc (own := [("node", 5)]) rfl sc__law_leaves_right.nd (kpi_list K (pv 4)) (blkOk_by (own := [("node", 5)]) (N := ["graph", "made", "literal", "due", "told", "node"]) (sc := defScope s__law_leaves_right) (by decide +kernel)) (fun _ _ _ _ _ => (pg_name (i := 5) sc__law_leaves_right.nd rfl (.inl rfl))) (fun _ _ _ _ _ => (pts_one (pt_not (pt_val (C8.pe_c c__law_is_number hr (by decide) (by rfl) (pa_cons (pv 5) pa_nil)))))) (fun _ _ _ _ _ => (pv 5))) pa_nil)) pe_int (nomark _))))) (pss_one (ps_ret pe_bl)) pss_nil)
      (pss_cons (ps_if (pt_cmpR (kop_neD K hr.units) (pv 4) (pv 3) (nomark _)) (pss_one (ps_ret pe_bl)) pss_nil)
      (pss_cons (ps_expr (kpe_bm K PySem.F.plainAttrs_list PySem.F.slot_list_append PySem.F.type_list_append mt_append (pv 4) (pa_cons pe_int pa_nil)))
      (pss_one (ps_ret (pe_and (pe_cmpR (kop_eqD K hr.units) (C8.pe_c c_leaves_of hr (by decide) (by rfl) (pa_cons (pv 0) (pa_cons (pe_op op_xor (pv 2) pe_int) pa_nil))) (pv 3) (nomark _)) (pe_one (pe_cmpR (kop_eqD K hr.units) (C8.pe_c c_leaves_of hr (by decide) (by rfl) (pa_cons (pv 0) (pa_cons (pv 2) pa_nil))) (pv 3) (nomark _))))))))))), ?_⟩
  rw [show (L2.start ["graph", "made", "literal", "due", "told", "node"] [.ref gr, .ref m, .int (L : Int)] : L2.St) = [some (.ref gr), some (.ref m), some (.int (L : Int)), none, none, none] from rfl]
  try simp only [WL.cxK]
  have noe : (fun _ : Nat => false) = (fun n : Nat => decide (n ∈ ([] : List Nat))) := by funext n; simp
  walk_at "go"
  rw [nat_half]
  refine ⟨Nat.zero_le _, fun l0 nl0 => ?_⟩
  have s1 := same_new (o := .lst []) nl0
  have e1 : upd H l0 (.lst []) l0 = some (.lst (nv [])) := upd_same
  generalize upd H l0 (.lst []) = H1 at s1 e1 ⊢
  walk_at "go"
  refine ⟨m, lp, da, b, r, n, vc, ex, L / 2, l0, [], rfl, hM.same s1, hb0, hR.1, hR.2.1, hL, e1, fun qd lv H2 s2 nqd hqd hda hdm => ?_⟩
  have s2' := s1.trans s2
  have hlv : lv.length ≤ 1000 := asc_len hda fun x hx => by have := (hdm x).mp hx; have := hR.1; omega
  walk_at "go"
  refine ⟨gr, b, r, L, rfl, hG.same s2', hR, hL, fun lv2 l2 H3 s3 hl2 nl2 ha2 hm2 => ?_⟩
  have elv : lv2 = lv := asc_ext ha2 hda fun x => by rw [hm2, hdm, noe]
  subst elv
  have s3' := s2'.trans s3
  have hqd3 := s3 _ _ hqd
  walk_at "go"
  refine g_isiB (.base (.lst hl2)) (b := true) (by decide +kernel) ?_
  walk_at "go"
  refine f_lcFiltN (SqL.of hl2) (by omega) (fun _ => false) (fun _ => rfl) (fun _ => rfl) (fun i n H4 Q' hn s5 hq => ?_) fun l3 nl3 => ?_
  · walk_at "go"
    refine ⟨(n : Int), rfl, ?_⟩
    walk_at "go"
    exact hq
  have s4 := same_new (o := .lst (nv (lv2.filter fun _ => false))) nl3
  have e4 : upd H3 l3 (.lst (nv (lv2.filter fun _ => false))) l3 = some (.lst (nv [])) := by rw [upd_same, show lv2.filter (fun _ => false) = [] from List.filter_eq_nil_iff.mpr (fun _ _ h => by cases h)]
  generalize upd H3 l3 (.lst (nv (lv2.filter fun _ => false))) = H4 at s4 e4 ⊢
  have hl4 := s4 _ _ hl2
  have hqd4 := s4 _ _ hqd3
  have s4' := s3'.trans s4
  walk_at "go"
  rw [nv_len, show decide ((0 : Int) < (([] : List Nat).length : Int)) = false by decide]
  walk_at "go"
  refine g_neSame (dp_nats (SqL.of hl4)) (dp_nats (SqL.of hqd4)) (sh_nats lv2) ?_
  walk_at "go"
  refine g_app hl4 (by rw [nv_len]; exact sz_lt (by omega)) ?_
  have nl2H : H l2 = none := s2'.free nl2
  have s5 : Same H (upd H4 l2 (.lst (nv lv2 ++ [V.int 0]))) := same_mut s4' nl2H
  have hqd5 : upd H4 l2 (.lst (nv lv2 ++ [V.int 0])) qd = some (.lst (nv lv2)) := by rw [upd_ne (ne_of_none hqd nl2)]; exact hqd4
  generalize upd H4 l2 (.lst (nv lv2 ++ [V.int 0])) = H5 at s5 hqd5 ⊢
  walk_at "go"
  rw [xor_one]
  have hx2 := xor_half L (show 1 < 2 by omega)
  generalize L ^^^ 1 = L1 at hx2 ⊢
  refine ⟨gr, b, r, L1, rfl, hG.same s5, hR, by omega, fun lv3 l5 H6 s6 hl5 nl5 ha3 hm3 => ?_⟩
  have elv : lv3 = lv2 := asc_ext ha3 hda fun x => by rw [hm3, hx2, hdm, noe]
  subst elv
  have hqd6 := s6 _ _ hqd5
  walk_at "go"
  refine g_eqSame (dp_nats (SqL.of hl5)) (dp_nats (SqL.of hqd6)) (sh_nats lv3) ?_
  walk_at "go"
  refine ⟨gr, b, r, L, rfl, hG.same (s5.trans s6), hR, hL, fun lv4 l6 H7 s7 hl6 nl6 ha4 hm4 => ?_⟩
  have elv : lv4 = lv3 := asc_ext ha4 hda fun x => by rw [hm4, hdm, noe]
  subst elv
  have hqd7 := s7 _ _ hqd6
  walk_at "go"
  refine g_eqSame (dp_nats (SqL.of hl6)) (dp_nats (SqL.of hqd7)) (sh_nats lv4) ?_
  exact q H7 (s5.trans (s6.trans s7))
end K22
set_option Elab.async false
set_option linter.all false
set_option maxRecDepth 100000
set_option maxHeartbeats 4000000
namespace K22
open PySem PySem.Spec PyProof.Rows L2 WL
local macro_rules | `(tactic| walk_at "lk") => `(tactic| first
  | apply upd_same
  | assumption
  | (rw [upd_ne (by assumption)]; first | exact upd_same | assumption | (rw [upd_ne (by assumption)]; first | exact upd_same | assumption | (rw [upd_ne (by assumption)]; first | exact upd_same | assumption))))
local macro_rules | `(tactic| walk_at "go1") => `(tactic| first
  | (with_reducible refine g_seq ?_)
  | (with_reducible refine g_asg ?_)
  | (with_reducible refine g_name ?_)
  | (with_reducible refine g_sub ?_)
  | ((with_reducible refine' g_var ?gv ?_); (case gv => apply Eq.refl))
  | (with_reducible refine g_c ?_)
  | (with_reducible refine g_op ?_)
  | (with_reducible refine g_un ?_)
  | (with_reducible refine g_I0 ?_)
  | ((with_reducible refine g_I ?gc ?_); (case gc => first | assumption | decide | (show (0 : Int) < _; omega) | (show (0 : Int) ≤ _; omega) | refine Or.inr ⟨by omega, by omega⟩ | refine Or.inl ⟨by omega, by omega⟩ | refine ⟨by omega, by omega⟩))
  | (with_reducible refine iteT ?_)
  | (with_reducible refine iteF ?_)
  | (with_reducible refine iteNT ?_)
  | (with_reducible refine iteNF ?_)
  | (with_reducible refine g_andV ?_)
  | (with_reducible refine g_orV ?_)
  | ((with_reducible refine' g_lenS (by assumption) ?_))
  | ((with_reducible refine' g_lenS (SqL.of (by walk_at "lk")) ?_))
  | (with_reducible refine g_U ?_)
  | ((with_reducible refine' g_eq ?gs ?_); (case gs => rfl))
  | ((with_reducible refine g_ne ?gs ?_); (case gs => rfl))
  | (with_reducible refine g_drop ?_)
  | (with_reducible refine g_ret ?_)
  | (with_reducible refine g_next ?_)
  | (with_reducible refine g_ifS ?_)
  | (with_reducible refine g_ifE ?_)
  | (with_reducible refine g_test ?_)
  | (with_reducible refine g_tb ?_)
  | (with_reducible refine g_bl ?_)
  | (with_reducible refine g_not ?_)
  | (with_reducible refine g_and ?_)
  | (with_reducible refine g_or ?_)
  | (with_reducible refine g_nil ?_)
  | (with_reducible refine g_cons ?_)
  | (with_reducible refine g_cb ?_)
  | (with_reducible refine g_call ?_)
  | (with_reducible refine g_int ?_)
  | (with_reducible refine g_two ?_)
  | ((with_reducible refine g_lenStr ?gz ?_); (case gz => first | assumption | exact sz_le (by omega)))
  | (with_reducible refine g_m1 ?_)
  | (with_reducible refine g_isS ?_)
  | (with_reducible refine g_nn ?_)
  | (with_reducible refine g_yes ?_)
  | (with_reducible refine g_for ?_)
  | (with_reducible refine g_ckw ?_)
  | (with_reducible refine g_chain ?_)
  | (with_reducible refine g_gcons ?_)
  | (with_reducible refine g_gnil ?_)
  | (with_reducible refine g_notV ?_)
  | (with_reducible refine g_iZip ?_)
  | (with_reducible refine g_lc ?_)
  | (with_reducible refine g_lc2 ?_)
  | (with_reducible refine g_iList ?_)
  | (with_reducible refine g_iRng1 ?_)
  | (with_reducible refine g_iRng2 ?_)
  | (with_reducible refine g_sl ?_)
  | (with_reducible refine g_noPart ?_)
  | (with_reducible refine g_part ?_)
  | (with_reducible refine g_ex1 ?_)
  | (with_reducible refine g_bm ?_)
  | ((with_reducible refine' g_tyL (by walk_at "lk") ?_))
  | ((with_reducible refine' g_aug ?gv ?_); (case gv => exact rfl))
  | (with_reducible refine g_ipI ?_)
  | (with_reducible refine g_turn ?_)
  | (with_reducible refine g_brk ?_)
  | (with_reducible refine g_cont ?_)
  | (with_reducible refine g_sign ?_)
  | (with_reducible refine g_lst ?_)
  | (with_reducible refine g_tup ?_)
  | ((with_reducible refine' g_ixL (by assumption) ?ga ?_); (case ga => assumption))
  | ((with_reducible refine' g_ixL (SqL.of (by walk_at "lk")) ?ga ?_); (case ga => first | exact rfl | assumption))
  | ((with_reducible refine' g_ixT (SqT.of (by walk_at "lk")) ?ga ?_); (case ga => first | exact rfl | assumption))
  | ((with_reducible refine' g_lenT (SqT.of (by walk_at "lk")) ?_))
  | ((with_reducible refine' g_isiS (b := true) ?ga ?_); (case ga => decide +kernel))
  | ((with_reducible refine' g_isiS (b := false) ?ga ?_); (case ga => decide +kernel))
  | ((with_reducible refine' g_isiI (b := true) ?ga ?_); (case ga => decide +kernel))
  | ((with_reducible refine' g_isiI (b := false) ?ga ?_); (case ga => decide +kernel))
  | ((with_reducible refine' g_setL2 ?ga ?gb ?_); (case ga => exact rfl); (case gb => exact rfl))
  | ((with_reducible refine' g_setL (by walk_at "lk") ?ga ?gb ?_); (case ga => exact rfl); (case gb => exact rfl)))
local macro_rules | `(tactic| walk_at "go") => `(tactic| ((repeat walk_at "go1"); try dsimp only [List.set, List.cons_append, List.nil_append]))
local macro_rules | `(tactic| walk_at "go1") => `(tactic| first
  | (with_reducible refine WOwn.g_fl ?_)
  | (with_reducible refine WOwn.g_sfl ?_)
  | (with_reducible refine WOwn.g_make ?_)
  | (with_reducible refine WOwn.g_meth ?_)
  | (with_reducible refine WOwn.g_sm ?_)
  | (with_reducible refine WOwn.g_cv ?_))
local macro_rules | `(tactic| walk_at "go1") => `(tactic| first
  | (with_reducible refine WDict.g_dget ?_)
  | (with_reducible refine WDict.g_din ?_)
  | (with_reducible refine WDict.g_dnotin ?_)
  | (with_reducible refine WDict.g_dput ?_)
  | (with_reducible refine WDict.g_dnew ?_)
  | (with_reducible refine WDict.g_dget2 ?_)
  | (with_reducible refine WDict.g_dsetd ?_)
  | (with_reducible refine WDict.g_disp ?_)
  | (with_reducible refine WDict.g_pair ?_)
  | (with_reducible refine WDict.g_pair0 ?_)
  | (with_reducible refine WDict.g_tru ?_))
local macro_rules | `(tactic| walk_at "go1") => `(tactic| first
  | (with_reducible refine g_iEnum ?_)
  | (with_reducible refine g_iTup ?_)
  | (with_reducible refine g_bm0 ?_)
  | ((with_reducible refine' g_gTup (SqT.of (by walk_at "lk")) ?gn ?_); (case gn => exact rfl)))
local macro_rules | `(tactic| walk_at "go1") => `(tactic| first
  | (with_reducible refine WDict.g_getS (by walk_at "lk") bd1 ?_)
  | (with_reducible refine WDict.g_getS (by walk_at "lk") bd2 ?_)
  | (with_reducible refine WDict.g_getS (by walk_at "lk") bd3 ?_)
  | (with_reducible refine WDict.g_getS (by walk_at "lk") bd4 ?_)
  | (with_reducible refine WDict.g_getS (by walk_at "lk") bd5 ?_)
  | (with_reducible refine WDict.g_getS (by walk_at "lk") bd6 ?_))
local macro_rules | `(tactic| walk_at "go1") => `(tactic| first
  | (with_reducible refine WDict.g_getS (by walk_at "lk") md2 ?_)
  | (with_reducible refine WDict.g_getS (by walk_at "lk") md3 ?_)
  | (with_reducible refine WDict.g_getS (by walk_at "lk") md4 ?_)
  | (with_reducible refine WDict.g_getS (by walk_at "lk") md5 ?_))
/-! rows compared: the data -/
theorem dpAll_map {K : PySem.W.Frag} {H : Hp} {α : Type} {f : α → V} {g : α → PyData} : ∀ {l : List α}, (∀ t ∈ l, Dp K H (f t) (g t)) → DpAll K H (l.map f) (l.map g)
  | [], _ => .nil
  | a :: r, h => .cons (h a List.mem_cons_self) (dpAll_map fun t ht => h t (List.mem_cons_of_mem _ ht))
theorem lay_map {α : Type} {g : α → PyData} : ∀ {l : List α}, (∀ t ∈ l, PyData.canLay0 (g t) = true) → PyData.canLayAll0 (l.map g) = true
  | [], _ => rfl
  | a :: r, h => by rw [List.map_cons, PyData.canLayAll0, h a List.mem_cons_self, lay_map fun t ht => h t (List.mem_cons_of_mem _ ht)]; rfl
theorem dep_map {α : Type} {g : α → PyData} {k : Nat} : ∀ {l : List α}, (∀ t ∈ l, PyData.depth (g t) ≤ k) → PyData.depthAll (l.map g) ≤ k
  | [], _ => Nat.zero_le _
  | a :: r, h => by
    rw [List.map_cons, PyData.depthAll]
    have h1 := h a List.mem_cons_self
    have h2 := dep_map fun t ht => h t (List.mem_cons_of_mem _ ht)
    omega
def pairD (t : Addr × Nat × Nat) : PyData := .tuple [.int (t.2.1 : Int), .int (t.2.2 : Int)]
def regD (t : Addr × Nat × Nat × Nat) : PyData := .tuple [.str (Str.ofString "r"), .int (t.2.1 : Int), .int (t.2.2.1 : Int), .int (t.2.2.2 : Int)]
def insD (t : Addr × Str × Int) : PyData := .tuple [.str t.2.1, .int t.2.2]
def outD (t : Str × List Int) : PyData := .tuple [.str t.1, .list (t.2.map PyData.int)]
theorem lay_ints (l : List Int) : PyData.canLayAll0 (l.map PyData.int) = true := lay_map fun t _ => by rw [PyData.canLay0]
theorem dep_ints (l : List Int) : PyData.depthAll (l.map PyData.int) ≤ 0 := dep_map fun t _ => by rw [PyData.depth]; exact Nat.le_refl _
theorem dp_ints {K : PySem.W.Frag} {H : Hp} : ∀ l : List Int, DpAll K H (l.map V.int) (l.map PyData.int) := fun l => dpAll_map fun t _ => .int t
theorem lay_pair (t) : PyData.canLay0 (pairD t) = true := by unfold pairD; simp [PyData.canLay0, PyData.canLayAll0]
theorem dep_pair (t) : PyData.depth (pairD t) ≤ 2 := by unfold pairD; simp [PyData.depth, PyData.depthAll]
theorem okR : PyData.strOk (Str.ofString "r") = true := by decide +kernel
theorem okY : PyData.strOk (Str.ofString "y") = true := by decide +kernel
theorem lay_reg (t) : PyData.canLay0 (regD t) = true := by unfold regD; simp [PyData.canLay0, PyData.canLayAll0, okR]
theorem dep_reg (t) : PyData.depth (regD t) ≤ 2 := by unfold regD; simp [PyData.depth, PyData.depthAll]
theorem lay_ins {t} (h : PyData.strOk t.2.1 = true) : PyData.canLay0 (insD t) = true := by unfold insD; simp [PyData.canLay0, PyData.canLayAll0, h]
theorem dep_ins (t) : PyData.depth (insD t) ≤ 2 := by unfold insD; simp [PyData.depth, PyData.depthAll]
theorem lay_out {t} (h : t.1 = Str.ofString "y") : PyData.canLay0 (outD t) = true := by unfold outD; rw [h]; simp [PyData.canLay0, PyData.canLayAll0, okY, lay_ints]
theorem dep_out (t) : PyData.depth (outD t) ≤ 3 := by
  unfold outD
  have := dep_ints t.2
  simp only [PyData.depth, PyData.depthAll]
  omega
def spStays (C : Addr) : Sp := fun vs H Q _ => ∃ (gr m lp da lc li lr lo : Addr) (b : Nat) (r : Pairs) (n : Int) (cs : List Nat) (ins : Rows) (rg : RegR) (outs o' : Outs), vs = [.ref gr, .ref m] ∧ GA C H gr ⟨ins.map fun t => V.ref t.1, rg.map fun t => V.ref t.1, r.map fun t => V.ref t.1, outv o'⟩ ∧ WA m lp da lc li lr lo b r n cs ins rg outs H ∧ r.length ≤ 1000 ∧ rg.length ≤ 3 ∧ ins.length ≤ 2 ∧ (∀ t ∈ ins, PyData.strOk t.2.1 = true) ∧ (∀ t ∈ outs, t.2.2.2.length ≤ 3 ∧ t.2.1 = Str.ofString "y") ∧ outs.length ≤ 1 ∧ OutAt H o' ∧ told o' = told outs ∧
  ∀ H', Same H H' → Q (.bl true) H'
theorem WA.same {m lp da lc li lr lo : Addr} {b : Nat} {r : Pairs} {n : Int} {cs : List Nat} {ins : Rows} {rg : RegR} {outs : Outs} {H H' : Hp} (h : WA m lp da lc li lr lo b r n cs ins rg outs H) (s : Same H H') : WA m lp da lc li lr lo b r n cs ins rg outs H' :=
  ⟨h.M.same s, s _ _ h.hc, s _ _ h.hi, fun t ht => s _ _ (h.ia t ht), s _ _ h.hr, fun t ht => s _ _ (h.ra t ht), s _ _ h.ho, h.oa.same s⟩
theorem mx1 {n : Int} {b : Nat} {lp da li lr lo : Addr} {vc : V} : valV (madeD n b lp da vc (exD li lr lo)) (.inr "inputs") = some (.ref li) := rfl
theorem mx2 {n : Int} {b : Nat} {lp da li lr lo : Addr} {vc : V} : valV (madeD n b lp da vc (exD li lr lo)) (.inr "regs") = some (.ref lr) := rfl
theorem mx3 {n : Int} {b : Nat} {lp da li lr lo : Addr} {vc : V} : valV (madeD n b lp da vc (exD li lr lo)) (.inr "outputs") = some (.ref lo) := rfl
local macro_rules | `(tactic| walk_at "go1") => `(tactic| first
  | (with_reducible refine WDict.g_getS (by walk_at "lk") mx1 ?_)
  | (with_reducible refine WDict.g_getS (by walk_at "lk") mx2 ?_)
  | (with_reducible refine WDict.g_getS (by walk_at "lk") mx3 ?_))
theorem g_revL {K : PySem.W.Frag} {te : TE} {σ : L2.St} {H : Hp} {Q : VK} (h : te σ H fun x H1 => ∃ a xs, x = .ref a ∧ SqL K H1 a xs ∧ ∀ p, H1 p = none → Q (.ref p) (upd H1 p (.lst xs.reverse))) : tRevL K te σ H Q := h
theorem WA.kp {c g : Addr} {k : Nat} {m lp da lc li lr lo : Addr} {b : Nat} {r : Pairs} {n : Int} {cs : List Nat} {ins : Rows} {rg : RegR} {outs : Outs} {H H' : Hp} (h : WA m lp da lc li lr lo b r n cs ins rg outs H) (s : Kp g H H') (B : Bag c g k H) : WA m lp da lc li lr lo b r n cs ins rg outs H' :=
  ⟨h.M.kp s B, B.stay s h.hc nl_, B.stay s h.hi nl_, fun t ht => B.stay s (h.ia t ht) nt_, B.stay s h.hr nl_, fun t ht => B.stay s (h.ra t ht) nt_, B.stay s h.ho nl_, fun t ht => ⟨B.stay s (h.oa t ht).1 nt_, B.stay s (h.oa t ht).2 nl_⟩⟩
theorem GA.kp {C c g gr : Addr} {k : Nat} {G : Gr} {H H' : Hp} (h : GA C H gr G) (s : Kp g H H') (B : Bag c g k H) : GA C H' gr G := let ⟨dx, li, lr, la, lo, a, b, d, e, f⟩ := h; ⟨dx, li, lr, la, lo, B.stay s a (fun _ h => by cases h), B.stay s b nl_, B.stay s d nl_, B.stay s e nl_, B.stay s f nl_⟩
theorem GA.gok {C gr m lp da lc li lr lo : Addr} {b : Nat} {r : Pairs} {n : Int} {cs : List Nat} {ins : Rows} {rg : RegR} {outs o' : Outs} {H : Hp} {wide : Bool} (h : GA C H gr ⟨ins.map fun t => V.ref t.1, rg.map fun t => V.ref t.1, r.map fun t => V.ref t.1, outv o'⟩) (W : WA m lp da lc li lr lo b r n cs ins rg outs H) (P : WP wide b r cs ins rg outs) : GOk C H gr b r :=
  ⟨_, ins, h, rfl, W.ia, by have := P.i1; omega, by show (rg.map _).length ≤ 1000; rw [List.length_map]; have := P.g1; omega, by show _ + ((rg.map fun t => V.ref t.1).length : Int) = _; rw [List.length_map]; exact P.s, rfl, W.M.p⟩
def spLaw (K : PySem.W.Frag) : Sp := fun vs H Q _ => ∃ (a : Addr) (ns : List Int), vs = [.ref a] ∧ SqL K H a (ns.map V.int) ∧ ns.length ≤ 63 ∧ ∀ H', Q (.bl true) H'
section
variable {K : PySem.W.Frag} {H : Hp} {p : Addr}
theorem dp_pairs {r : Pairs} (h : SqL K H p (r.map fun t => V.ref t.1)) (hp : PrAt H r) : Dp K H (.ref p) (.list (r.map pairD)) := .lst h (dpAll_map fun t ht => .tup (SqT.of (hp t ht)) (.cons (.int _) (.cons (.int _) .nil)))
theorem dp_regs {r : RegR} (h : SqL K H p (r.map fun t => V.ref t.1)) (hp : RegAt H r) : Dp K H (.ref p) (.list (r.map regD)) := .lst h (dpAll_map fun t ht => .tup (SqT.of (hp t ht)) (.cons (.str _) (.cons (.int _) (.cons (.int _) (.cons (.int _) .nil)))))
theorem dp_ins {r : Rows} (h : SqL K H p (r.map fun t => V.ref t.1)) (hp : InsAt H r) : Dp K H (.ref p) (.list (r.map insD)) := .lst h (dpAll_map fun t ht => .tup (SqT.of (hp t ht)) (.cons (.str _) (.cons (.int _) .nil)))
theorem dp_outs {r : Outs} (h : SqL K H p (outv r)) (hp : OutAt H r) : Dp K H (.ref p) (.list ((told r).map outD)) := by
  rw [told, List.map_map]
  exact .lst h (dpAll_map fun t ht => .tup (SqT.of (hp t ht).1) (.cons (.str _) (.cons (.lst (SqL.of (hp t ht).2) (dp_ints _)) .nil)))
end
variable {P : Program} {w : World} {K : PySem.W.Frag} {mg : Str → Option Value} {base : Heap} {dA : Nat → Addr}
theorem ok__law_stays (T : Txt K mg dA) (c_Graph_regs : C8.Met P w K mg base 1 (dA 200) "regs" (spCopy (dA 200) Gr.regs) []) (c_Graph_ands : C8.Met P w K mg base 1 (dA 200) "ands" (spCopy (dA 200) Gr.ands) []) (c_Graph_outputs : C8.Met P w K mg base 1 (dA 200) "outputs" (spOuts (dA 200)) []) (c_Graph_inputs : C8.Met P w K mg base 1 (dA 200) "inputs" (spCopy (dA 200) Gr.ins) []) {f : Addr} {fd : FuncData} (F : Fun K "_law_stays" "_law_stays" s__law_stays f fd) : FnOk P w K mg base CX0 2 f fd ["graph", "made"] (spStays (dA 200)) := by
  refine F.ok sc__law_stays (fun vs H Q E h => ?_) (fun cdv A outer s H vs Q E hr h => ?_)
  · obtain ⟨gr, m, lp, da, lc, li, lr, lo, b, r, n, cs, ins, rg, outs, o', rfl, _⟩ := h
    rfl
  obtain ⟨gr, m, lp, da, lc, li, lr, lo, b, r, n, cs, ins, rg, outs, o', rfl, hG, hW, hr1, hg1, hi1, hio, hoo, hol, hoa, hto, q⟩ := h
  refine ⟨_, (pss_cons (ps_if (PW.pt (pw_or (pt_cmpR (kop_neD K hr.units) (C8.pe_mt0 c_Graph_ands hr (by decide) (pv 0)) (pe_dget (hu_of hr) (pv 1) pe_str (fun _ _ => rfl)) (nomark _)) (pw_or1 (pt_cmpR (kop_neD K hr.units) (C8.pe_mt0 c_Graph_regs hr (by decide) (pv 0)) (pe_dget (hu_of hr) (pv 1) pe_str (fun _ _ => rfl)) (nomark _))))) (pss_one (ps_ret pe_bl)) pss_nil)
      (pss_one (ps_ret (pe_and (pe_cmpR (kop_eqD K hr.units) (C8.pe_mt0 c_Graph_inputs hr (by decide) (pv 0)) (pe_dget (hu_of hr) (pv 1) pe_str (fun _ _ => rfl)) (nomark _)) (pe_one (pe_cmpR (kop_eqD K hr.units) (C8.pe_mt0 c_Graph_outputs hr (by decide) (pv 0)) (pe_dget (hu_of hr) (pv 1) pe_str (fun _ _ => rfl)) (nomark _))))))), ?_⟩
  rw [show (L2.start ["graph", "made"] [.ref gr, .ref m] : L2.St) = [some (.ref gr), some (.ref m)] from rfl]
  try simp only [WL.cxK]
  have okl : SeqAt.shaped (.list ((told o').map outD)) = true := shaped_list (lay_map fun t ht => by
    rw [hto] at ht
    obtain ⟨u, hu, rfl⟩ := List.mem_map.mp ht
    exact lay_out (hoo u hu).2) (Nat.le_trans (dep_map fun t _ => dep_out t) (by decide))
  have hG1 := hG
  obtain ⟨dx, l1, l2, l3, l4, hg, hl1, hl2, hl3, hl4⟩ := hG1
  walk_at "go"
  refine WOwn.g_methR hg rfl ?_
  walk_at "go"
  refine ⟨gr, _, rfl, hG, by simp; omega, fun p np => ?_⟩
  have s1 := same_new (o := .lst (r.map fun t => V.ref t.1)) np
  have e1 : upd H p (.lst (r.map fun t => V.ref t.1)) p = some (.lst (r.map fun t => V.ref t.1)) := upd_same
  generalize upd H p (.lst (r.map fun t => V.ref t.1)) = H1 at s1 e1 ⊢
  have W1 := hW.same s1
  have hmd := W1.M.d
  walk_at "go"
  refine g_neSame (dp_pairs (SqL.of e1) W1.M.p) (dp_pairs (SqL.of W1.M.l) W1.M.p) (shaped_list (lay_map fun t _ => lay_pair t) (Nat.le_trans (dep_map fun t _ => dep_pair t) (by decide))) ?_
  have hG2 := hG.same s1
  have hg2 := s1 _ _ hg
  walk_at "go"
  refine WOwn.g_methR hg2 rfl ?_
  walk_at "go"
  refine ⟨gr, _, rfl, hG2, by simp; omega, fun p2 np2 => ?_⟩
  have s2 := s1.trans (same_new (o := .lst (rg.map fun t => V.ref t.1)) np2)
  have e2 : upd H1 p2 (.lst (rg.map fun t => V.ref t.1)) p2 = some (.lst (rg.map fun t => V.ref t.1)) := upd_same
  generalize upd H1 p2 (.lst (rg.map fun t => V.ref t.1)) = H2 at s2 e2 ⊢
  have W2 := hW.same s2
  have hmd := W2.M.d
  walk_at "go"
  refine g_neSame (dp_regs (SqL.of e2) W2.ra) (dp_regs (SqL.of W2.hr) W2.ra) (shaped_list (lay_map fun t _ => lay_reg t) (Nat.le_trans (dep_map fun t _ => dep_reg t) (by decide))) ?_
  have hG3 := hG.same s2
  have hg3 := s2 _ _ hg
  walk_at "go"
  refine WOwn.g_methR hg3 rfl ?_
  walk_at "go"
  refine ⟨gr, _, rfl, hG3, by simp; omega, fun p3 np3 => ?_⟩
  have s3 := s2.trans (same_new (o := .lst (ins.map fun t => V.ref t.1)) np3)
  have e3 : upd H2 p3 (.lst (ins.map fun t => V.ref t.1)) p3 = some (.lst (ins.map fun t => V.ref t.1)) := upd_same
  generalize upd H2 p3 (.lst (ins.map fun t => V.ref t.1)) = H3 at s3 e3 ⊢
  have W3 := hW.same s3
  have hmd := W3.M.d
  walk_at "go"
  refine g_eqSame (dp_ins (SqL.of e3) W3.ia) (dp_ins (SqL.of W3.hi) W3.ia) (shaped_list (lay_map fun t ht => lay_ins (hio t ht)) (Nat.le_trans (dep_map fun t _ => dep_ins t) (by decide))) ?_
  have hG4 := hG.same s3
  have hg4 := s3 _ _ hg
  walk_at "go"
  refine WOwn.g_methR hg4 rfl ?_
  walk_at "go"
  have hol' : o'.length ≤ 1 := by have := congrArg List.length hto; simp [told] at this; omega
  refine ⟨gr, _, o', rfl, hG4, rfl, hoa.same s3, ⟨by omega, fun t ht => ?_⟩, fun p4 r4 H4 np4 s4 hp4 ho4 ht4 hn4 => ?_⟩
  · have h1 : (t.2.1, t.2.2.2) ∈ told outs := by rw [← hto]; exact List.mem_map.mpr ⟨t, ht, rfl⟩
    obtain ⟨u, hu, e⟩ := List.mem_map.mp h1
    have := (hoo u hu).1
    have e2 : u.2.2.2 = t.2.2.2 := congrArg (fun z : Str × List Int => z.2) e
    rw [e2] at this; omega
  have W4 := W3.same s4
  have hmd := W4.M.d
  walk_at "go"
  have d1 := dp_outs (K := K) (SqL.of hp4) ho4
  have d2 := dp_outs (K := K) (SqL.of W4.ho) W4.oa
  rw [ht4] at d1
  rw [← hto] at d2
  refine g_eqSame d1 d2 okl ?_
  exact q H4 (s3.trans s4)
theorem ok_law (T : Txt K mg dA) (c__law_bag : C8.Cal P w K mg base 1 "_law_bag" (spBag K) []) (c__law_world : C8.Cal P w K mg base 4 "_law_world" (spWorld) []) (c__law_stays : C8.Cal P w K mg base 2 "_law_stays" (spStays (dA 200)) []) (c__law_draw : C8.Cal P w K mg base 1 "_law_draw" spDraw []) (c__law_literal : C8.Cal P w K mg base 2 "_law_literal" spLitr []) (c__law_cut : C8.Cal P w K mg base 3 "_law_cut" spCut []) (c__law_wide_cut : C8.Cal P w K mg base 3 "_law_wide_cut" spWcut []) (c__law_right : C8.Cal P w K mg base 7 "_law_right" (spRight (dA 200)) []) (c__law_leaves_right : C8.Cal P w K mg base 6 "_law_leaves_right" (spLvR (dA 200)) []) (m_Graph : C8.Mak P w K mg base 1 "Graph" (dA 200) (spMkG (dA 200)) []) {f : Addr} {fd : FuncData} (F : Fun K "law" "law" s_law f fd) : FnOk P w K mg base CX0 8 f fd ["script"] (spLaw K) := by
  refine F.ok sc_law (fun vs H Q E h => ?_) (fun cdv A outer s H vs Q E hr h => ?_)
  · obtain ⟨a, ns, rfl, _⟩ := h
    rfl
  obtain ⟨a, ns, rfl, hS, hl, q⟩ := h
  refine ⟨_, (pss_cons (ps_set (i := 1) sc_law.nd rfl (.inl rfl) (C8.pe_c c__law_bag hr (by decide) (by rfl) (pa_cons (pv 0) pa_nil)))
      (pss_cons (ps_set (i := 2) sc_law.nd rfl (.inl rfl) (pe_cmpR op_eq (C8.pe_c c__law_draw hr (by decide) (by rfl) (pa_cons (pv 1) (pa_cons pe_int pa_nil))) pe_int (nomark _)))
      (pss_cons (ps_set (i := 3) sc_law.nd rfl (.inl rfl) (C8.pe_c c__law_world hr (by decide) (by rfl) (pa_cons (pv 1) (pa_cons (pv 2) pa_nil))))
      (pss_cons (ps_setLc (i := 4) (own := [("row", 9)]) rfl sc_law.nd rfl rfl (sw_true rfl rfl rfl (by decide +kernel)) (kpi_list K (pe_dget (hu_of hr) (pv 3) pe_str (fun _ _ => rfl))) (blkOk_by (own := [("row", 9)]) (N := ["script", "bag", "wide", "made", "outputs", "graph", "turn", "literal", "leaves", "row"]) (sc := defScope s_law) (by decide +kernel)) (fun _ _ _ _ _ => (pg_name (i := 9) sc_law.nd rfl (.inl rfl))) (fun _ _ _ _ _ => pts_nil) (fun _ _ _ _ _ => (pe_tup (pa_cons (pe_ix (kix_tup K) (pv 9) pe_int (fun _ _ => rfl)) (pa_cons (pe_callTy (kcall_list_of K) (by rfl) T.b_list (by decide +kernel) (pa_cons (pe_ix (kix_tup K) (pv 9) pe_int (fun _ _ => rfl)) pa_nil)) pa_nil)))))
      (pss_cons (ps_set (i := 5) sc_law.nd rfl (.inl rfl) (C8.pe_mk m_Graph hr (by decide) (by rfl) (pa_cons (pe_callTy (kcall_list_of K) (by rfl) T.b_list (by decide +kernel) (pa_cons (pe_dget (hu_of hr) (pv 3) pe_str (fun _ _ => rfl)) pa_nil)) (pa_cons (pe_callTy (kcall_list_of K) (by rfl) T.b_list (by decide +kernel) (pa_cons (pe_dget (hu_of hr) (pv 3) pe_str (fun _ _ => rfl)) pa_nil)) (pa_cons (pe_callTy (kcall_list_of K) (by rfl) T.b_list (by decide +kernel) (pa_cons (pe_dget (hu_of hr) (pv 3) pe_str (fun _ _ => rfl)) pa_nil)) (pa_cons (pv 4) pa_nil))))))
      (Evl.pss_cut (ps_for PassesOwn.never rfl (pi_range1 (by rfl) T.b_range (pa_cons pe_int pa_nil)) (pg_name (i := 6) sc_law.nd rfl (.inl rfl)) (pss_cons (ps_set (i := 7) sc_law.nd rfl (.inl rfl) (C8.pe_c c__law_literal hr (by decide) (by rfl) (pa_cons (pv 1) (pa_cons (pv 3) pa_nil))))
      (pss_cons (ps_set (i := 8) sc_law.nd rfl (.inl rfl) (C8.pe_c c__law_cut hr (by decide) (by rfl) (pa_cons (pv 1) (pa_cons (pv 3) (pa_cons (pe_op op_fdiv (pv 7) pe_int) pa_nil)))))
      (pss_cons (ps_if (PW.pt (pw_or (pt_not (pt_val (C8.pe_c c__law_leaves_right hr (by decide) (by rfl) (pa_cons (pv 5) (pa_cons (pv 3) (pa_cons (pv 7) pa_nil)))))) (pw_or1 (pt_not (pt_val (C8.pe_c c__law_right hr (by decide) (by rfl) (pa_cons (pv 1) (pa_cons (pv 5) (pa_cons (pv 3) (pa_cons (pv 7) (pa_cons (pv 8) pa_nil))))))))))) (pss_one (ps_ret pe_bl)) pss_nil)
      (pss_one (ps_if (pt_not (pt_val (C8.pe_c c__law_right hr (by decide) (by rfl) (pa_cons (pv 1) (pa_cons (pv 5) (pa_cons (pv 3) (pa_cons (pe_op op_xor (pv 7) pe_int) (pa_cons (pe_revL (pv 8)) pa_nil)))))))) (pss_one (ps_ret pe_bl)) pss_nil))))))
      (Evl.pss_cut (ps_if (pt_val (pv 2)) (pss_cons (ps_set (i := 7) sc_law.nd rfl (.inl rfl) (pe_op op_xor (pe_ix (kix_list K) (pe_dget (hu_of hr) (pv 3) pe_str (fun _ _ => rfl)) (pe_un un_neg pe_int) (fun _ _ => rfl)) (C8.pe_c c__law_draw hr (by decide) (by rfl) (pa_cons (pv 1) (pa_cons pe_int pa_nil)))))
      (pss_cons (ps_set (i := 8) sc_law.nd rfl (.inl rfl) (C8.pe_c c__law_wide_cut hr (by decide) (by rfl) (pa_cons (pv 1) (pa_cons (pv 3) pa_nil))))
      (pss_one (ps_if (PW.pt (pw_or (pt_not (pt_val (C8.pe_c c__law_leaves_right hr (by decide) (by rfl) (pa_cons (pv 5) (pa_cons (pv 3) (pa_cons (pv 7) pa_nil)))))) (pw_or1 (pt_not (pt_val (C8.pe_c c__law_right hr (by decide) (by rfl) (pa_cons (pv 1) (pa_cons (pv 5) (pa_cons (pv 3) (pa_cons (pv 7) (pa_cons (pv 8) pa_nil))))))))))) (pss_one (ps_ret pe_bl)) pss_nil)))) pss_nil)
      (pss_one (ps_ret (C8.pe_c c__law_stays hr (by decide) (by rfl) (pa_cons (pv 5) (pa_cons (pv 3) pa_nil)))))))))))), ?_⟩
  rw [show (L2.start ["script", "bag", "wide", "made", "outputs", "graph", "turn", "literal", "leaves", "row"] [.ref a] : L2.St) = [some (.ref a), none, none, none, none, none, none, none, none, none] from rfl]
  try simp only [WL.cxK]
  walk_at "go"
  refine ⟨a, ns, rfl, hS, hl, fun c g H1 ng nc s1 B1 => ?_⟩
  walk_at "go"
  refine g_draw B1 (by omega) (by decide) (by decide) fun d H2 hd k2 B2 => ?_
  walk_at "go"
  generalize decide (V.int (d : Int) = V.int 1) = wide
  refine ⟨c, g, _, wide, rfl, B2, by omega, fun m lp da lc li lr lo b r n cs ins rg outs k3 H3 kp3 B3 hk3 W3 P3 => ?_⟩
  have hmd := W3.M.d
  have ho := W3.ho
  walk_at "go"
  refine f_lcL (SqL.of ho) (fun D i H' => ∃ r2 : Outs, H' D = some (.lst (outv r2)) ∧ OutAt H' r2 ∧ told r2 = told (outs.take i) ∧ Same H3 H' ∧ ∀ t ∈ r2, t.2.2.1 ≠ D ∧ H3 t.2.2.1 = none) (fun D nD => ⟨[], upd_same, OutAt.nil, rfl, same_new nD, fun _ ht => by cases ht⟩) (fun D i H' nD _ ⟨_, _, _, _, s', _⟩ => SqL.of (s' _ _ ho)) (fun D i x H' nD hx hP => ?_) (fun D H' nD hP => ?_)
  · obtain ⟨r2, hD, hr2, hm, s5, hdd⟩ := hP
    obtain ⟨t, ht, rfl⟩ := map_atG hx
    have htm := List.mem_of_getElem? ht
    obtain ⟨hrow, hlits⟩ := W3.oa t htm
    have hrow := s5 _ _ hrow
    have hlits := s5 _ _ hlits
    have hl2 : r2.length ≤ 1 := by have := congrArg List.length hm; simp [told] at this; have := P3.o1; omega
    have hl3 := (P3.ok t htm).1
    walk_at "go"
    refine ⟨rfl, ?_⟩
    walk_at "go"
    intro q1 n1
    walk_at "go"
    refine ⟨sz_le (n := 2) (by simp), fun a1 n2 => ?_⟩
    have s4 : Same H' (upd (upd H' q1 (.lst (t.2.2.2.map V.int))) a1 (.tup [.str t.2.1, .ref q1])) := (same_new n1).trans (same_new n2)
    have hqD : q1 ≠ D := fun e => by rw [e, hD] at n1; cases n1
    obtain ⟨o1, o2, o3, o4⟩ := out_end nD s5 hD hr2 s4 (a := a1) (q := q1) (n := t.2.1) (l := t.2.2.2) upd_same (same_new n2 _ _ upd_same) hqD fun u hu => (hdd u hu).1
    refine ⟨outv r2, o1, by rw [outv, List.length_map]; exact sz_lt (by omega), _, o2, o3, ?_, o4, fun u hu => ?_⟩
    · rw [told, List.map_append, ← told, hm, List.take_succ, ht, told, told, List.map_append]
      rfl
    · rcases List.mem_append.mp hu with hu | hu
      · exact hdd u hu
      · rw [List.mem_singleton.mp hu]
        exact ⟨hqD, s5.free n1⟩
  obtain ⟨r2, hD, hr2, hm, s5, hdd⟩ := hP
  rw [outv, List.length_map, List.take_length] at hm
  have W4 := W3.same s5
  have B4 := B3.same s5
  clear W3 B3 hmd ho
  have hmd := W4.M.d
  have hli := W4.hi
  walk_at "go"
  intro p1 np1
  have s6 := same_new (o := .lst (ins.map fun t => V.ref t.1)) np1
  have f1 : upd H' p1 (.lst (ins.map fun t => V.ref t.1)) p1 = some (.lst (ins.map fun t => V.ref t.1)) := upd_same
  generalize upd H' p1 (.lst (ins.map fun t => V.ref t.1)) = H6 at s6 f1 ⊢
  have hmd := s6 _ _ W4.M.d
  have hlr := s6 _ _ W4.hr
  walk_at "go"
  intro p2 np2
  have s7 := s6.trans (same_new (o := .lst (rg.map fun t => V.ref t.1)) np2)
  have f1 := same_new (o := .lst (rg.map fun t => V.ref t.1)) np2 _ _ f1
  have f2 : upd H6 p2 (.lst (rg.map fun t => V.ref t.1)) p2 = some (.lst (rg.map fun t => V.ref t.1)) := upd_same
  generalize upd H6 p2 (.lst (rg.map fun t => V.ref t.1)) = H7 at s7 f1 f2 ⊢
  have hmd := s7 _ _ W4.M.d
  have hlp := s7 _ _ W4.M.l
  walk_at "go"
  intro p3 np3
  have s8 := s7.trans (same_new (o := .lst (r.map fun t => V.ref t.1)) np3)
  have f1 := same_new (o := .lst (r.map fun t => V.ref t.1)) np3 _ _ f1
  have f2 := same_new (o := .lst (r.map fun t => V.ref t.1)) np3 _ _ f2
  have f3 : upd H7 p3 (.lst (r.map fun t => V.ref t.1)) p3 = some (.lst (r.map fun t => V.ref t.1)) := upd_same
  generalize upd H7 p3 (.lst (r.map fun t => V.ref t.1)) = H8 at s8 f1 f2 f3 ⊢
  walk_at "go"
  intro x dx nx ndx nex
  have s9 := s8.trans ((same_new (o := .own x) ndx).trans (same_new (o := .ins (dA 200) dx []) (show upd H8 dx (.own x) x = none from by rw [upd_ne nex.symm]; exact nx)))
  have hx9 : upd (upd H8 dx (.own x)) x (.ins (dA 200) dx []) x = some (.ins (dA 200) dx []) := upd_same
  have t8 : Same H8 (upd (upd H8 dx (.own x)) x (.ins (dA 200) dx [])) := (same_new (o := .own x) ndx).trans (same_new (o := .ins (dA 200) dx []) (show upd H8 dx (.own x) x = none from by rw [upd_ne nex.symm]; exact nx))
  have g1 := t8 _ _ f1
  have g2 := t8 _ _ f2
  have g3 := t8 _ _ f3
  have g4 := s9 _ _ hD
  have nxH : H' x = none := s8.free nx
  generalize upd (upd H8 dx (.own x)) x (.ins (dA 200) dx []) = H9 at s9 hx9 g1 g2 g3 g4 ⊢
  have hto : told r2 = told outs := hm
  have hr2l : r2.length ≤ 1 := by have := congrArg List.length hto; simp [told] at this; have := P3.o1; omega
  refine ⟨x, dx, p1, p2, p3, D, _, _, _, r2, rfl, hx9, g1, g2, g3, g4, hr2.same s9, ⟨by omega, fun t ht => ?_⟩, fun r4 H10 k10 hGA hr4 htold => ?_⟩
  · have h1 : (t.2.1, t.2.2.2) ∈ told outs := by rw [← hto]; exact List.mem_map.mpr ⟨t, ht, rfl⟩
    obtain ⟨u, hu, e⟩ := List.mem_map.mp h1
    have := (P3.ok u hu).1
    have e2 : u.2.2.2 = t.2.2.2 := congrArg (fun z : Str × List Int => z.2) e
    rw [e2] at this; omega
  refine ⟨rfl, ?_⟩
  have s10 : Same H' H10 := same_kp s9 k10 nxH
  have W5 := W4.same s10
  have B5 := B4.same s10
  have hto5 : told r4 = told outs := htold.trans hto
  clear s9 s10 k10 g1 g2 g3 g4 f1 f2 f3 t8 hx9 s8 s7 s6 hli hlr hlp W4 B4 hD hr2 s5 hdd np1 np2 np3 nx ndx
  walk_at "go"
  refine ⟨fun σ' H' => ∃ (k' : Nat) (y1 y2 y3 y4 : Option V), σ' = [some (.ref a), some (.ref g), some (.bl wide), some (.ref m), some (.ref D), some (.ref x), y1, y2, y3, y4] ∧ Kp g H10 H' ∧ Bag c g k' H' ∧ k' ≤ 3000, ?_, fun σ' H' hW => ?_⟩
  · walk_at "go"
    refine f_rng1 (z := 4) (by decide) (by decide) (fun i σ' H' => ∃ (k' : Nat) (y1 y2 y3 y4 : Option V), σ' = [some (.ref a), some (.ref g), some (.bl wide), some (.ref m), some (.ref D), some (.ref x), y1, y2, y3, y4] ∧ Kp g H10 H' ∧ Bag c g k' H' ∧ k' ≤ 1100 + 300 * i)
      ⟨k3, _, _, _, _, rfl, Kp.refl _, B5, by omega⟩ (fun i σ' H' hi hP => ?_) (fun σ' H' hP => ?_)
    · obtain ⟨k4, y1, y2, y3, y4, rfl, kp4, B6, hk4⟩ := hP
      have W6 := W5.kp kp4 B5
      have A6 := hGA.kp kp4 B5
      have hi4 : i < 4 := by omega
      have hb := P3.b0
      have hb1 := P3.b1
      have hr1 := P3.r1
      walk_at "go"
      refine ⟨c, g, k4, m, lp, da, b, r, n, _, _, rfl, B6, by omega, W6.M, hb, by omega, by omega, fun L H7 hL k7 B7 M7 => ?_⟩
      have W7 := W6.kp k7 B6
      have A7 := A6.kp k7 B6
      walk_at "go"
      rw [nat_half]
      refine ⟨c, g, _, m, lp, da, b, r, n, _, _, L / 2, rfl, B7, by omega, W7.M, hb, by omega, by omega, by omega, fun ql ls k8 H8 kp8 B8 hk8 nql hql hnd hbd hln => ?_⟩
      have W8 := W7.kp kp8 B7
      have A8 := A7.kp kp8 B7
      walk_at "go"
      refine ⟨x, m, lp, da, b, r, n, _, _, L, rfl, A8.gok W8 P3, W8.M, ⟨by omega, by omega, W8.M.ok⟩, hb, by omega, fun H9 s9 => ?_⟩
      have W9 := W8.same s9
      have A9 := A8.same s9
      walk_at "go"
      refine ⟨c, g, k8, x, m, lp, da, b, r, n, _, _, L, ql, ls, rfl, B8.same s9, by omega, A9.gok W9 P3, W9.M, ⟨by omega, by omega, W9.M.ok⟩, hb, s9 _ _ hql, hnd, hbd, by omega, hln, fun k10 H11 kp11 B11 hk11 => ?_⟩
      have W11 := W9.kp kp11 (B8.same s9)
      have A11 := A9.kp kp11 (B8.same s9)
      have hql11 := (B8.same s9).stay kp11 (s9 _ _ hql) nl_
      walk_at "go"
      rw [xor_one]
      have hx2 := xor_half L (show 1 < 2 by omega)
      generalize L ^^^ 1 = L1 at hx2 ⊢
      refine g_revL ?_
      walk_at "go"
      refine ⟨ql, _, rfl, SqL.of hql11, fun pr npr => ?_⟩
      rw [show (nv ls).reverse = nv ls.reverse by rw [nv, nv, List.map_reverse]]
      have s12 := same_new (o := .lst (nv ls.reverse)) npr
      have e12 : upd H11 pr (.lst (nv ls.reverse)) pr = some (.lst (nv ls.reverse)) := upd_same
      generalize upd H11 pr (.lst (nv ls.reverse)) = H12 at s12 e12 ⊢
      have W12 := W11.same s12
      have A12 := A11.same s12
      walk_at "go"
      refine ⟨c, g, k10, x, m, lp, da, b, r, n, _, _, L1, pr, ls.reverse, rfl, B11.same s12, by omega, A12.gok W12 P3, W12.M, ⟨by omega, by omega, W12.M.ok⟩, hb, e12, (List.reverse_perm ls).nodup_iff.mpr hnd, (fun y hy => hbd y (List.mem_reverse.mp hy)), by omega, by rw [List.length_reverse]; exact hln, fun k13 H13 kp13 B13 hk13 => ?_⟩
      walk_at "go"
      exact ⟨k13, _, _, _, _, rfl, kp4.trans (k7.trans (kp8.trans ((Kp.same s9).trans (kp11.trans ((Kp.same s12).trans kp13))))), B13, by omega⟩
    · obtain ⟨k4, y1, y2, y3, y4, rfl, kp4, B6, hk4⟩ := hP
      exact ⟨k4, _, _, _, _, rfl, kp4, B6, by omega⟩
  obtain ⟨k4, y1, y2, y3, y4, rfl, kp4, B6, hk4⟩ := hW
  have W6 := W5.kp kp4 B5
  have A6 := hGA.kp kp4 B5
  have hb := P3.b0
  have hb1 := P3.b1
  have hr1 := P3.r1
  walk_at "go"
  refine ⟨fun σ' H' => ∃ (y1 y2 y3 y4 : Option V) (k' : Nat), σ' = [some (.ref a), some (.ref g), some (.bl wide), some (.ref m), some (.ref D), some (.ref x), y1, y2, y3, y4] ∧ Kp g H10 H' ∧ Bag c g k' H', ?_, fun σ' H' hW => ?_⟩
  · walk_at "go"
    refine g_iteB (fun e => ?_) (fun e => ?_)
    · obtain ⟨h13, hcl, hch⟩ := P3.w e
      obtain ⟨c0, z, rfl⟩ : ∃ c0 z, cs = c0 ++ [z] := by
        rcases List.eq_nil_or_concat cs with h | ⟨c0, x, h⟩
        · rw [h] at hcl; simp at hcl; omega
        · exact ⟨c0, x, by rw [h, List.concat_eq_append]⟩
      have hz := hch c0.length z (by simp)
      have hmd := W6.M.d
      have hcc := W6.hc
      walk_at "go"
      refine g_ixL (SqL.of hcc) (v := .int (z : Int)) (by rw [nv_app_one]; exact atI_last _ _) ?_
      walk_at "go"
      refine g_draw B6 (by omega) (by decide) (by decide) fun d7 H7 hd7 kp7 B7 => ?_
      have W7 := W6.kp kp7 B6
      have A7 := A6.kp kp7 B6
      walk_at "go"
      rw [xor_nat]
      have hx2 := xor_half z (show d7 < 2 by omega)
      generalize z ^^^ d7 = L at hx2 ⊢
      refine ⟨c, g, _, m, lp, da, lc, b, r, n, _, _, rfl, B7, by omega, W7.M, W7.hc, h13, hb1, by omega, hcl, hch, fun ql ls k8 H8 kp8 B8 hk8 nql hql hnd hbd hln => ?_⟩
      have W8 := W7.kp kp8 B7
      have A8 := A7.kp kp8 B7
      walk_at "go"
      refine ⟨x, m, lp, da, b, r, n, _, _, L, rfl, A8.gok W8 P3, W8.M, ⟨by omega, by omega, W8.M.ok⟩, hb, by omega, fun H9 s9 => ?_⟩
      have W9 := W8.same s9
      have A9 := A8.same s9
      walk_at "go"
      refine ⟨c, g, k8, x, m, lp, da, b, r, n, _, _, L, ql, ls, rfl, B8.same s9, by omega, A9.gok W9 P3, W9.M, ⟨by omega, by omega, W9.M.ok⟩, hb, s9 _ _ hql, hnd, hbd, by omega, hln, fun k10 H11 kp11 B11 hk11 => ?_⟩
      walk_at "go"
      exact ⟨_, _, _, _, k10, rfl, kp4.trans (kp7.trans (kp8.trans ((Kp.same s9).trans kp11))), B11⟩
    · walk_at "go"
      exact ⟨_, _, _, _, k4, rfl, kp4, B6⟩
  obtain ⟨z1, z2, z3, z4, k5, rfl, kp7, B7⟩ := hW
  walk_at "go"
  refine ⟨x, m, lp, da, lc, li, lr, lo, b, r, n, cs, ins, rg, outs, r4, rfl, hGA.kp kp7 B5, W5.kp kp7 B5, by omega, P3.g1, P3.i1, P3.is, P3.ok, P3.o1, fun t ht => ⟨B5.stay kp7 (hr4 t ht).1 nt_, B5.stay kp7 (hr4 t ht).2 nl_⟩, hto5, fun H8 s8 => ?_⟩
  exact q H8
end K22
set_option Elab.async false
set_option linter.all false
set_option maxRecDepth 100000
set_option maxHeartbeats 4000000
namespace WOwn
open PySem PySem.Spec PyProof.Rows L2
theorem kit_self (K : PySem.W.Frag) (C : Addr) : PySem.W.kitOne K (.ref C) (.ref C) = some true := by
  unfold PySem.W.kitOne
  simp
end WOwn
namespace K22
open PySem PySem.Spec PyProof.Rows L2 WL
section
variable {P : Program} {w : World} {K : PySem.W.Frag} {mg : Str → Option Value} {base : Heap} {dA : Nat → Addr}
theorem ok_TooWide___init__ (T : Txt K mg dA)  {f cc cda : Addr} {fd : FuncData} (F : WExc.FunS K "__init__" "TooWide.__init__" s_TooWide___init__ f cc cda fd) (U : WExc.SupK P K (dA 100) cc cda) (hm : mg "super" = none) : FnOk P w K mg base CX0 2 f fd ["self", "count", "limit"] (WExc.spIni (dA 100) 2 ok_TooWide fs_TooWide) := by
  refine F.okE nsc_TooWide T.xo_TooWide U rfl rfl rfl rfl hm rfl (fun L => ⟨rfl, rfl, rfl, rfl, rfl⟩) rfl fun A outer s H a ws Q E hr hn hk ha => ?_
  obtain ⟨v0, v1, rfl, h0, h1⟩ := hk
  refine ⟨_, _, (pa_cons (WExc.kpe_joined (PJ.cons (pe_fmt (pv 1)) (PJ.cons pe_str (PJ.cons (pe_fmt (pv 2)) PJ.nil)))) pa_nil), (pss_cons (ps_ost (pv 0) (pv 1)) (pss_one (ps_ost (pv 0) (pv 2)))), fun q => ?_⟩
  rw [show (NdefX.startF ["self", "count", "limit", "__class__"] (V.ref a :: [V.int v0, V.int v1]) [none] : L2.St) = [some (.ref a), some (.int v0), some (.int v1), none] from rfl]
  refine g_cons ?_
  refine WExc.g_join0 fun acc hacc => ?_
  refine WExc.g_js ?_
  refine WExc.g_fmt ?_
  refine g_var rfl ?_
  refine WExc.g_fmtI h0 ?_
  refine WExc.g_jsS (WExc.num_len h0) hacc (by decide) fun acc hacc => ?_
  refine WExc.g_js ?_
  refine g_c ?_
  refine WExc.g_jsS (by decide +kernel) hacc (by decide) fun acc hacc => ?_
  refine WExc.g_js ?_
  refine WExc.g_fmt ?_
  refine g_var rfl ?_
  refine WExc.g_fmtI h1 ?_
  refine WExc.g_jsS (WExc.num_len h1) hacc (by decide) fun acc hacc => ?_
  refine WExc.g_jsN ?_
  refine g_nil ?_
  refine ⟨by show 1 ≤ 1000; decide, ha, ?_⟩
  refine g_seq ?_
  refine WExc.g_ost ?_; refine g_var rfl ?_; refine g_var rfl ?_
  refine ⟨a, _, rfl, T.xo_TooWide, T.xn_TooWide_count, .inl ⟨ha, fun dx ndx hda => ?_⟩⟩
  dsimp only
  refine WExc.g_ost ?_; refine g_var rfl ?_; refine g_var rfl ?_
  refine ⟨a, _, rfl, T.xo_TooWide, T.xn_TooWide_limit, .inr ⟨dx, _, by first | exact upd_same | (rw [upd_ne (Ne.symm hda)]; exact upd_same), by first | exact upd_same | (rw [upd_ne hda]; exact upd_same), by simp, ?_⟩⟩
  refine q dx _ ndx (fun b o hb hne => ?_) (by first | exact upd_same | (rw [upd_ne (Ne.symm hda)]; exact upd_same)) (by first | exact upd_same | (rw [upd_ne hda]; exact upd_same))
  have hbd : b ≠ dx := ne_of_none hb ndx
  first | (rw [upd_ne hne, upd_ne hbd]; exact hb) | (rw [upd_ne hbd, upd_ne hne, upd_ne hbd]; exact hb) | (rw [upd_ne hbd, upd_ne hbd, upd_ne hne, upd_ne hbd]; exact hb)
theorem ok_NotACut___init__ (T : Txt K mg dA)  {f cc cda : Addr} {fd : FuncData} (F : WExc.FunS K "__init__" "NotACut.__init__" s_NotACut___init__ f cc cda fd) (U : WExc.SupK P K (dA 101) cc cda) (hm : mg "super" = none) : FnOk P w K mg base CX0 2 f fd ["self", "node"] (WExc.spIni (dA 101) 1 ok_NotACut fs_NotACut) := by
  refine F.okE nsc_NotACut T.xo_NotACut U rfl rfl rfl rfl hm rfl (fun L => ⟨rfl, rfl, rfl, rfl, rfl⟩) rfl fun A outer s H a ws Q E hr hn hk ha => ?_
  obtain ⟨v0, rfl, h0⟩ := hk
  refine ⟨_, _, (pa_cons (WExc.kpe_joined (PJ.cons pe_str (PJ.cons (pe_fmt (pv 1)) (PJ.cons pe_str PJ.nil)))) pa_nil), (pss_one (ps_ost (pv 0) (pv 1))), fun q => ?_⟩
  rw [show (NdefX.startF ["self", "node", "__class__"] (V.ref a :: [V.int v0]) [none] : L2.St) = [some (.ref a), some (.int v0), none] from rfl]
  refine g_cons ?_
  refine WExc.g_join0 fun acc hacc => ?_
  refine WExc.g_js ?_
  refine g_c ?_
  refine WExc.g_jsS (by decide +kernel) hacc (by decide) fun acc hacc => ?_
  refine WExc.g_js ?_
  refine WExc.g_fmt ?_
  refine g_var rfl ?_
  refine WExc.g_fmtI h0 ?_
  refine WExc.g_jsS (WExc.num_len h0) hacc (by decide) fun acc hacc => ?_
  refine WExc.g_js ?_
  refine g_c ?_
  refine WExc.g_jsS (by decide +kernel) hacc (by decide) fun acc hacc => ?_
  refine WExc.g_jsN ?_
  refine g_nil ?_
  refine ⟨by show 1 ≤ 1000; decide, ha, ?_⟩
  refine WExc.g_ost ?_; refine g_var rfl ?_; refine g_var rfl ?_
  refine ⟨a, _, rfl, T.xo_NotACut, T.xn_NotACut_node, .inl ⟨ha, fun dx ndx hda => ?_⟩⟩
  refine q dx _ ndx (fun b o hb hne => ?_) (by first | exact upd_same | (rw [upd_ne (Ne.symm hda)]; exact upd_same)) (by first | exact upd_same | (rw [upd_ne hda]; exact upd_same))
  have hbd : b ≠ dx := ne_of_none hb ndx
  first | (rw [upd_ne hne, upd_ne hbd]; exact hb) | (rw [upd_ne hbd, upd_ne hne, upd_ne hbd]; exact hb) | (rw [upd_ne hbd, upd_ne hbd, upd_ne hne, upd_ne hbd]; exact hb)
end
open PySem PySem.Spec PyProof.Rows L2 WL
theorem all_mk {l : PySem.W.OpenLaw} {w : World} {K : PySem.W.Frag} {h : Heap} {mg : Str → Option Value} {fa f0 f1 f2 f3 f4 f5 f6 f7 f8 f9 f10 f11 f12 f13 f14 f15 f16 f17 f18 f19 f20 f21 f22 f23 f24 f25 f26 f27 f28 f29 f30 f31 f32 : Addr} (X : K.In h) (G : h.Ns mainGlobals mg) (hfa : mg "law" = some (.ref fa))
    {od0 an0 od1 an1 od2 an2 od3 an3 od4 an4 od5 an5 od6 an6 od7 an7 od8 an8 od9 an9 od10 an10 od11 an11 od12 an12 od13 an13 od14 an14 od15 an15 od16 an16 od17 an17 od18 an18 od19 an19 od20 an20 od21 an21 od22 an22 od23 an23 od24 an24 od25 an25 od26 an26 od27 an27 od28 an28 od29 an29 od30 an30 od31 an31 od32 an32 : Option Addr} {sl0 sl1 sl2 sl3 sl4 sl5 sl6 sl7 sl8 sl9 sl10 sl11 sl12 sl13 sl14 sl15 sl16 sl17 sl18 sl19 sl20 sl21 sl22 sl23 sl24 sl25 sl26 sl27 sl28 sl29 sl30 sl31 sl32 : Array (Option Value)} {oc0 kV0 dc0 pm0 cd0 ct0 oc1 kV1 dc1 pm1 cd1 ct1 oc2 kV2 dc2 pm2 cd2 ct2 oc3 kV3 dc3 pm3 cd3 ct3 oc4 kV4 dc4 pm4 cd4 ct4 oc5 kV5 dc5 pm5 cd5 ct5 oc6 kV6 dc6 pm6 cd6 ct6 oc7 kV7 dc7 pm7 cd7 ct7 oc8 kV8 dc8 pm8 cd8 ct8 oc9 kV9 dc9 pm9 cd9 ct9 oc10 kV10 dc10 pm10 cd10 ct10 oc11 kV11 dc11 pm11 cd11 ct11 oc12 kV12 dc12 pm12 cd12 ct12 oc13 kV13 dc13 pm13 cd13 ct13 oc14 kV14 dc14 pm14 cd14 ct14 oc15 kV15 dc15 pm15 cd15 ct15 oc16 kV16 dc16 pm16 cd16 ct16 oc17 kV17 dc17 pm17 cd17 ct17 oc18 kV18 dc18 pm18 cd18 ct18 oc19 kV19 dc19 pm19 cd19 ct19 oc20 kV20 dc20 pm20 cd20 ct20 oc21 kV21 dc21 pm21 cd21 ct21 oc22 kV22 dc22 pm22 cd22 ct22 oc23 kV23 dc23 pm23 cd23 ct23 oc24 kV24 dc24 pm24 cd24 ct24 oc25 kV25 dc25 pm25 cd25 ct25 oc26 kV26 dc26 pm26 cd26 ct26 oc27 kV27 dc27 pm27 cd27 ct27 oc28 kV28 dc28 pm28 cd28 ct28 oc29 kV29 dc29 pm29 cd29 ct29 oc30 kV30 dc30 pm30 cd30 ct30 oc31 kV31 dc31 pm31 cd31 ct31 oc32 kV32 dc32 pm32 cd32 ct32 : Value}
    {eC_Graph : Addr}
    (a0 : PySem.W.nsIn K mainGlobals "input_bits" = some (some (.ref f0))) (l0 : K.lookup f0 = some ⟨oc0, od0, .func (PySem.W.fnOf "input_bits" "input_bits" (defArgs s_input_bits) (defBody s_input_bits) (defScope s_input_bits) .none kV0 dc0 pm0 an0 cd0 ct0), sl0⟩) (c0 : PySem.W.codeIn K cd0 "input_bits" = true) (k0 : PySem.W.keepIn K (.ref f0) = true)
    (a1 : PySem.W.nsIn K mainGlobals "first_and" = some (some (.ref f1))) (l1 : K.lookup f1 = some ⟨oc1, od1, .func (PySem.W.fnOf "first_and" "first_and" (defArgs s_first_and) (defBody s_first_and) (defScope s_first_and) .none kV1 dc1 pm1 an1 cd1 ct1), sl1⟩) (c1 : PySem.W.codeIn K cd1 "first_and" = true) (k1 : PySem.W.keepIn K (.ref f1) = true)
    (a2 : PySem.W.findIn K (.ref eC_Graph) "__init__" = some (some (.ref f2))) (n2 : PySem.W.isFn K (.ref f2) = true) (l2 : K.lookup f2 = some ⟨oc2, od2, .func (PySem.W.fnOf "__init__" "Graph.__init__" (defArgs s_Graph___init__) (defBody s_Graph___init__) (defScope s_Graph___init__) .none kV2 dc2 pm2 an2 cd2 ct2), sl2⟩) (c2 : PySem.W.codeIn K cd2 "Graph.__init__" = true) (k2 : PySem.W.keepIn K (.ref f2) = true)
    (a3 : PySem.W.findIn K (.ref eC_Graph) "inputs" = some (some (.ref f3))) (n3 : PySem.W.isFn K (.ref f3) = true) (l3 : K.lookup f3 = some ⟨oc3, od3, .func (PySem.W.fnOf "inputs" "Graph.inputs" (defArgs s_Graph_inputs) (defBody s_Graph_inputs) (defScope s_Graph_inputs) .none kV3 dc3 pm3 an3 cd3 ct3), sl3⟩) (c3 : PySem.W.codeIn K cd3 "Graph.inputs" = true) (k3 : PySem.W.keepIn K (.ref f3) = true)
    (a4 : PySem.W.findIn K (.ref eC_Graph) "regs" = some (some (.ref f4))) (n4 : PySem.W.isFn K (.ref f4) = true) (l4 : K.lookup f4 = some ⟨oc4, od4, .func (PySem.W.fnOf "regs" "Graph.regs" (defArgs s_Graph_regs) (defBody s_Graph_regs) (defScope s_Graph_regs) .none kV4 dc4 pm4 an4 cd4 ct4), sl4⟩) (c4 : PySem.W.codeIn K cd4 "Graph.regs" = true) (k4 : PySem.W.keepIn K (.ref f4) = true)
    (a5 : PySem.W.findIn K (.ref eC_Graph) "ands" = some (some (.ref f5))) (n5 : PySem.W.isFn K (.ref f5) = true) (l5 : K.lookup f5 = some ⟨oc5, od5, .func (PySem.W.fnOf "ands" "Graph.ands" (defArgs s_Graph_ands) (defBody s_Graph_ands) (defScope s_Graph_ands) .none kV5 dc5 pm5 an5 cd5 ct5), sl5⟩) (c5 : PySem.W.codeIn K cd5 "Graph.ands" = true) (k5 : PySem.W.keepIn K (.ref f5) = true)
    (a6 : PySem.W.findIn K (.ref eC_Graph) "outputs" = some (some (.ref f6))) (n6 : PySem.W.isFn K (.ref f6) = true) (l6 : K.lookup f6 = some ⟨oc6, od6, .func (PySem.W.fnOf "outputs" "Graph.outputs" (defArgs s_Graph_outputs) (defBody s_Graph_outputs) (defScope s_Graph_outputs) .none kV6 dc6 pm6 an6 cd6 ct6), sl6⟩) (c6 : PySem.W.codeIn K cd6 "Graph.outputs" = true) (k6 : PySem.W.keepIn K (.ref f6) = true)
    (a7 : PySem.W.nsIn K mainGlobals "full_table" = some (some (.ref f7))) (l7 : K.lookup f7 = some ⟨oc7, od7, .func (PySem.W.fnOf "full_table" "full_table" (defArgs s_full_table) (defBody s_full_table) (defScope s_full_table) .none kV7 dc7 pm7 an7 cd7 ct7), sl7⟩) (c7 : PySem.W.codeIn K cd7 "full_table" = true) (k7 : PySem.W.keepIn K (.ref f7) = true)
    (a8 : PySem.W.nsIn K mainGlobals "variable" = some (some (.ref f8))) (l8 : K.lookup f8 = some ⟨oc8, od8, .func (PySem.W.fnOf "variable" "variable" (defArgs s_variable) (defBody s_variable) (defScope s_variable) .none kV8 dc8 pm8 an8 cd8 ct8), sl8⟩) (c8 : PySem.W.codeIn K cd8 "variable" = true) (k8 : PySem.W.keepIn K (.ref f8) = true)
    (a9 : PySem.W.nsIn K mainGlobals "literal_table" = some (some (.ref f9))) (l9 : K.lookup f9 = some ⟨oc9, od9, .func (PySem.W.fnOf "literal_table" "literal_table" (defArgs s_literal_table) (defBody s_literal_table) (defScope s_literal_table) .none kV9 dc9 pm9 an9 cd9 ct9), sl9⟩) (c9 : PySem.W.codeIn K cd9 "literal_table" = true) (k9 : PySem.W.keepIn K (.ref f9) = true)
    (a10 : PySem.W.nsIn K mainGlobals "cone_of" = some (some (.ref f10))) (l10 : K.lookup f10 = some ⟨oc10, od10, .func (PySem.W.fnOf "cone_of" "cone_of" (defArgs s_cone_of) (defBody s_cone_of) (defScope s_cone_of) .none kV10 dc10 pm10 an10 cd10 ct10), sl10⟩) (c10 : PySem.W.codeIn K cd10 "cone_of" = true) (k10 : PySem.W.keepIn K (.ref f10) = true)
    (a11 : PySem.W.nsIn K mainGlobals "leaves_of" = some (some (.ref f11))) (l11 : K.lookup f11 = some ⟨oc11, od11, .func (PySem.W.fnOf "leaves_of" "leaves_of" (defArgs s_leaves_of) (defBody s_leaves_of) (defScope s_leaves_of) .none kV11 dc11 pm11 an11 cd11 ct11), sl11⟩) (c11 : PySem.W.codeIn K cd11 "leaves_of" = true) (k11 : PySem.W.keepIn K (.ref f11) = true)
    (a12 : PySem.W.nsIn K mainGlobals "table_of" = some (some (.ref f12))) (l12 : K.lookup f12 = some ⟨oc12, od12, .func (PySem.W.fnOf "table_of" "table_of" (defArgs s_table_of) (defBody s_table_of) (defScope s_table_of) .none kV12 dc12 pm12 an12 cd12 ct12), sl12⟩) (c12 : PySem.W.codeIn K cd12 "table_of" = true) (k12 : PySem.W.keepIn K (.ref f12) = true)
    (a13 : PySem.W.nsIn K mainGlobals "_law_is_number" = some (some (.ref f13))) (l13 : K.lookup f13 = some ⟨oc13, od13, .func (PySem.W.fnOf "_law_is_number" "_law_is_number" (defArgs s__law_is_number) (defBody s__law_is_number) (defScope s__law_is_number) .none kV13 dc13 pm13 an13 cd13 ct13), sl13⟩) (c13 : PySem.W.codeIn K cd13 "_law_is_number" = true) (k13 : PySem.W.keepIn K (.ref f13) = true)
    (a14 : PySem.W.nsIn K mainGlobals "_law_bag" = some (some (.ref f14))) (l14 : K.lookup f14 = some ⟨oc14, od14, .func (PySem.W.fnOf "_law_bag" "_law_bag" (defArgs s__law_bag) (defBody s__law_bag) (defScope s__law_bag) .none kV14 dc14 pm14 an14 cd14 ct14), sl14⟩) (c14 : PySem.W.codeIn K cd14 "_law_bag" = true) (k14 : PySem.W.keepIn K (.ref f14) = true)
    (a15 : PySem.W.nsIn K mainGlobals "_law_draw" = some (some (.ref f15))) (l15 : K.lookup f15 = some ⟨oc15, od15, .func (PySem.W.fnOf "_law_draw" "_law_draw" (defArgs s__law_draw) (defBody s__law_draw) (defScope s__law_draw) .none kV15 dc15 pm15 an15 cd15 ct15), sl15⟩) (c15 : PySem.W.codeIn K cd15 "_law_draw" = true) (k15 : PySem.W.keepIn K (.ref f15) = true)
    (a16 : PySem.W.nsIn K mainGlobals "_law_known" = some (some (.ref f16))) (l16 : K.lookup f16 = some ⟨oc16, od16, .func (PySem.W.fnOf "_law_known" "_law_known" (defArgs s__law_known) (defBody s__law_known) (defScope s__law_known) .none kV16 dc16 pm16 an16 cd16 ct16), sl16⟩) (c16 : PySem.W.codeIn K cd16 "_law_known" = true) (k16 : PySem.W.keepIn K (.ref f16) = true)
    (a17 : PySem.W.nsIn K mainGlobals "_law_both" = some (some (.ref f17))) (l17 : K.lookup f17 = some ⟨oc17, od17, .func (PySem.W.fnOf "_law_both" "_law_both" (defArgs s__law_both) (defBody s__law_both) (defScope s__law_both) .none kV17 dc17 pm17 an17 cd17 ct17), sl17⟩) (c17 : PySem.W.codeIn K cd17 "_law_both" = true) (k17 : PySem.W.keepIn K (.ref f17) = true)
    (a18 : PySem.W.nsIn K mainGlobals "_law_size" = some (some (.ref f18))) (l18 : K.lookup f18 = some ⟨oc18, od18, .func (PySem.W.fnOf "_law_size" "_law_size" (defArgs s__law_size) (defBody s__law_size) (defScope s__law_size) .none kV18 dc18 pm18 an18 cd18 ct18), sl18⟩) (c18 : PySem.W.codeIn K cd18 "_law_size" = true) (k18 : PySem.W.keepIn K (.ref f18) = true)
    (a19 : PySem.W.nsIn K mainGlobals "_law_literal" = some (some (.ref f19))) (l19 : K.lookup f19 = some ⟨oc19, od19, .func (PySem.W.fnOf "_law_literal" "_law_literal" (defArgs s__law_literal) (defBody s__law_literal) (defScope s__law_literal) .none kV19 dc19 pm19 an19 cd19 ct19), sl19⟩) (c19 : PySem.W.codeIn K cd19 "_law_literal" = true) (k19 : PySem.W.keepIn K (.ref f19) = true)
    (a20 : PySem.W.nsIn K mainGlobals "_law_chain" = some (some (.ref f20))) (l20 : K.lookup f20 = some ⟨oc20, od20, .func (PySem.W.fnOf "_law_chain" "_law_chain" (defArgs s__law_chain) (defBody s__law_chain) (defScope s__law_chain) .none kV20 dc20 pm20 an20 cd20 ct20), sl20⟩) (c20 : PySem.W.codeIn K cd20 "_law_chain" = true) (k20 : PySem.W.keepIn K (.ref f20) = true)
    (a21 : PySem.W.nsIn K mainGlobals "_law_world" = some (some (.ref f21))) (l21 : K.lookup f21 = some ⟨oc21, od21, .func (PySem.W.fnOf "_law_world" "_law_world" (defArgs s__law_world) (defBody s__law_world) (defScope s__law_world) .none kV21 dc21 pm21 an21 cd21 ct21), sl21⟩) (c21 : PySem.W.codeIn K cd21 "_law_world" = true) (k21 : PySem.W.keepIn K (.ref f21) = true)
    (a22 : PySem.W.nsIn K mainGlobals "_law_shuffled" = some (some (.ref f22))) (l22 : K.lookup f22 = some ⟨oc22, od22, .func (PySem.W.fnOf "_law_shuffled" "_law_shuffled" (defArgs s__law_shuffled) (defBody s__law_shuffled) (defScope s__law_shuffled) .none kV22 dc22 pm22 an22 cd22 ct22), sl22⟩) (c22 : PySem.W.codeIn K cd22 "_law_shuffled" = true) (k22 : PySem.W.keepIn K (.ref f22) = true)
    (a23 : PySem.W.nsIn K mainGlobals "_law_cut" = some (some (.ref f23))) (l23 : K.lookup f23 = some ⟨oc23, od23, .func (PySem.W.fnOf "_law_cut" "_law_cut" (defArgs s__law_cut) (defBody s__law_cut) (defScope s__law_cut) .none kV23 dc23 pm23 an23 cd23 ct23), sl23⟩) (c23 : PySem.W.codeIn K cd23 "_law_cut" = true) (k23 : PySem.W.keepIn K (.ref f23) = true)
    (a24 : PySem.W.nsIn K mainGlobals "_law_wide_cut" = some (some (.ref f24))) (l24 : K.lookup f24 = some ⟨oc24, od24, .func (PySem.W.fnOf "_law_wide_cut" "_law_wide_cut" (defArgs s__law_wide_cut) (defBody s__law_wide_cut) (defScope s__law_wide_cut) .none kV24 dc24 pm24 an24 cd24 ct24), sl24⟩) (c24 : PySem.W.codeIn K cd24 "_law_wide_cut" = true) (k24 : PySem.W.keepIn K (.ref f24) = true)
    (a25 : PySem.W.nsIn K mainGlobals "_law_met" = some (some (.ref f25))) (l25 : K.lookup f25 = some ⟨oc25, od25, .func (PySem.W.fnOf "_law_met" "_law_met" (defArgs s__law_met) (defBody s__law_met) (defScope s__law_met) .none kV25 dc25 pm25 an25 cd25 ct25), sl25⟩) (c25 : PySem.W.codeIn K cd25 "_law_met" = true) (k25 : PySem.W.keepIn K (.ref f25) = true)
    (a26 : PySem.W.nsIn K mainGlobals "_law_value" = some (some (.ref f26))) (l26 : K.lookup f26 = some ⟨oc26, od26, .func (PySem.W.fnOf "_law_value" "_law_value" (defArgs s__law_value) (defBody s__law_value) (defScope s__law_value) .none kV26 dc26 pm26 an26 cd26 ct26), sl26⟩) (c26 : PySem.W.codeIn K cd26 "_law_value" = true) (k26 : PySem.W.keepIn K (.ref f26) = true)
    (a27 : PySem.W.nsIn K mainGlobals "_law_asked" = some (some (.ref f27))) (l27 : K.lookup f27 = some ⟨oc27, od27, .func (PySem.W.fnOf "_law_asked" "_law_asked" (defArgs s__law_asked) (defBody s__law_asked) (defScope s__law_asked) .none kV27 dc27 pm27 an27 cd27 ct27), sl27⟩) (c27 : PySem.W.codeIn K cd27 "_law_asked" = true) (k27 : PySem.W.keepIn K (.ref f27) = true)
    (a28 : PySem.W.nsIn K mainGlobals "_law_choices" = some (some (.ref f28))) (l28 : K.lookup f28 = some ⟨oc28, od28, .func (PySem.W.fnOf "_law_choices" "_law_choices" (defArgs s__law_choices) (defBody s__law_choices) (defScope s__law_choices) .none kV28 dc28 pm28 an28 cd28 ct28), sl28⟩) (c28 : PySem.W.codeIn K cd28 "_law_choices" = true) (k28 : PySem.W.keepIn K (.ref f28) = true)
    (a29 : PySem.W.nsIn K mainGlobals "_law_right" = some (some (.ref f29))) (l29 : K.lookup f29 = some ⟨oc29, od29, .func (PySem.W.fnOf "_law_right" "_law_right" (defArgs s__law_right) (defBody s__law_right) (defScope s__law_right) .none kV29 dc29 pm29 an29 cd29 ct29), sl29⟩) (c29 : PySem.W.codeIn K cd29 "_law_right" = true) (k29 : PySem.W.keepIn K (.ref f29) = true)
    (a30 : PySem.W.nsIn K mainGlobals "_law_leaves_right" = some (some (.ref f30))) (l30 : K.lookup f30 = some ⟨oc30, od30, .func (PySem.W.fnOf "_law_leaves_right" "_law_leaves_right" (defArgs s__law_leaves_right) (defBody s__law_leaves_right) (defScope s__law_leaves_right) .none kV30 dc30 pm30 an30 cd30 ct30), sl30⟩) (c30 : PySem.W.codeIn K cd30 "_law_leaves_right" = true) (k30 : PySem.W.keepIn K (.ref f30) = true)
    (a31 : PySem.W.nsIn K mainGlobals "_law_stays" = some (some (.ref f31))) (l31 : K.lookup f31 = some ⟨oc31, od31, .func (PySem.W.fnOf "_law_stays" "_law_stays" (defArgs s__law_stays) (defBody s__law_stays) (defScope s__law_stays) .none kV31 dc31 pm31 an31 cd31 ct31), sl31⟩) (c31 : PySem.W.codeIn K cd31 "_law_stays" = true) (k31 : PySem.W.keepIn K (.ref f31) = true)
    (a32 : PySem.W.nsIn K mainGlobals "law" = some (some (.ref f32))) (l32 : K.lookup f32 = some ⟨oc32, od32, .func (PySem.W.fnOf "law" "law" (defArgs s_law) (defBody s_law) (defScope s_law) .none kV32 dc32 pm32 an32 cd32 ct32), sl32⟩) (c32 : PySem.W.codeIn K cd32 "law" = true) (k32 : PySem.W.keepIn K (.ref f32) = true)
    (z_ValueError : PySem.W.nsIn K mainGlobals "ValueError" = some none)
    (z_bool : PySem.W.nsIn K mainGlobals "bool" = some none)
    (z_enumerate : PySem.W.nsIn K mainGlobals "enumerate" = some none)
    (z_int : PySem.W.nsIn K mainGlobals "int" = some none)
    (z_isinstance : PySem.W.nsIn K mainGlobals "isinstance" = some none)
    (z_len : PySem.W.nsIn K mainGlobals "len" = some none)
    (z_list : PySem.W.nsIn K mainGlobals "list" = some none)
    (z_max : PySem.W.nsIn K mainGlobals "max" = some none)
    (z_min : PySem.W.nsIn K mainGlobals "min" = some none)
    (z_range : PySem.W.nsIn K mainGlobals "range" = some none)
    (z_sorted : PySem.W.nsIn K mainGlobals "sorted" = some none)
    (z_sum : PySem.W.nsIn K mainGlobals "sum" = some none)
    {gt_MOST_LEAVES : Tok} (gg_MOST_LEAVES : PySem.W.nsIn K mainGlobals "MOST_LEAVES" = some (some (.int (16) gt_MOST_LEAVES)))
    (xa_Graph : PySem.W.nsIn K mainGlobals "Graph" = some (some (.ref eC_Graph)))
    (pg_Graph : PySem.W.plainGet K eC_Graph Str.empty = true)
    (hd_Graph : PySem.W.hasDictIn K eC_Graph = true)
    (po_Graph : PySem.W.plainOver K eC_Graph = true)
    (sa_Graph : PySem.W.findIn K (.ref eC_Graph) "__setattr__" = some (some (.builtin "object.__setattr__")))
    (mk_Graph : PySem.W.makesIn K eC_Graph = true)
    (xk_Graph : PySem.W.keepIn K (.ref eC_Graph) = true)
    (xcl_Graph : PySem.W.findIn K (.ref eC_Graph) "__class__" = some (some (.builtin "object.__class__")))
    (xm_Graph : PySem.W.mroIn K eC_Graph (.type "object") = some true)
    (xj_Graph : PySem.W.isClsIn K eC_Graph = true)
    (xy_Graph : PySem.W.typeIn K (.ref eC_Graph) = some (.type "type"))
    (sf_Graph : PySem.W.selfFirst K eC_Graph = true)
    (rd_Graph : PySem.W.readsIn K eC_Graph (.type "type") = true)
    (ga_Graph : PySem.W.specialIn K (.ref eC_Graph) "__getattribute__" = some (some (.builtin "type.__getattribute__")))
    (es0_Graph : PySem.W.subIn K (.type "NoneType") (.ref eC_Graph) = some false)
    (es1_Graph : PySem.W.subIn K (.type "int") (.ref eC_Graph) = some false)
    (es2_Graph : PySem.W.subIn K (.type "bool") (.ref eC_Graph) = some false)
    (es3_Graph : PySem.W.subIn K (.type "str") (.ref eC_Graph) = some false)
    (es4_Graph : PySem.W.subIn K (.type "list") (.ref eC_Graph) = some false)
    (es5_Graph : PySem.W.subIn K (.type "tuple") (.ref eC_Graph) = some false)
    (es6_Graph : PySem.W.subIn K (.type "dict") (.ref eC_Graph) = some false)
    (em0_Graph : PySem.W.mroIn K eC_Graph (.type "NoneType") = some false)
    (em1_Graph : PySem.W.mroIn K eC_Graph (.type "int") = some false)
    (em2_Graph : PySem.W.mroIn K eC_Graph (.type "bool") = some false)
    (em3_Graph : PySem.W.mroIn K eC_Graph (.type "str") = some false)
    (em4_Graph : PySem.W.mroIn K eC_Graph (.type "list") = some false)
    (em5_Graph : PySem.W.mroIn K eC_Graph (.type "tuple") = some false)
    (em6_Graph : PySem.W.mroIn K eC_Graph (.type "dict") = some false)
    (nf__inputs_Graph : PySem.W.findIn K (.ref eC_Graph) "_inputs" = some none)
    (nf__regs_Graph : PySem.W.findIn K (.ref eC_Graph) "_regs" = some none)
    (nf__ands_Graph : PySem.W.findIn K (.ref eC_Graph) "_ands" = some none)
    (nf__outputs_Graph : PySem.W.findIn K (.ref eC_Graph) "_outputs" = some none)
    {eC_TooWide eI_TooWide cc_TooWide cda_TooWide N_TooWide : Addr} {nm_TooWide q_TooWide file_TooWide : Str} {tf_TooWide : Tok} {bs_TooWide bm_TooWide sub_TooWide : List Value} {sn_TooWide : List Str} {ab_TooWide : Bool} {col_TooWide : Option Bool} {dd_TooWide od_TooWide an_TooWide cld_TooWide cdd_TooWide : Option Addr} {m0_TooWide m1_TooWide m2_TooWide m3_TooWide m5_TooWide : Option Value} {sl_TooWide csl_TooWide ccs_TooWide : Array (Option Value)} {oc_TooWide kV_TooWide dc_TooWide pm_TooWide ct_TooWide cl_TooWide ccl_TooWide : Value} {vs_TooWide : Array Value}
    (xa_TooWide : PySem.W.nsIn K mainGlobals "TooWide" = some (some (.ref eC_TooWide)))
    (xl_TooWide : K.lookup eC_TooWide = some (excClassObj nm_TooWide q_TooWide eC_TooWide N_TooWide bs_TooWide bm_TooWide true sn_TooWide sub_TooWide ab_TooWide col_TooWide dd_TooWide m0_TooWide m1_TooWide m2_TooWide m3_TooWide m5_TooWide "ValueError.__new__"))
    (xr_TooWide : PySem.HandSPX.refsVE bm_TooWide = true)
    (xs_TooWide : PySem.W.findIn K (.ref eC_TooWide) "__setattr__" = some (some (.builtin "object.__setattr__")))
    (xga_TooWide : PySem.W.findIn K (.ref eC_TooWide) "__getattribute__" = some (some (.builtin "BaseException.__getattribute__")))
    (xgg_TooWide : PySem.W.findIn K (.ref eC_TooWide) "__getattr__" = some none)
    (xcl_TooWide : PySem.W.findIn K (.ref eC_TooWide) "__class__" = some (some (.builtin "object.__class__")))
    (xm_TooWide : PySem.W.mroIn K eC_TooWide (.type "object") = some true)
    (xi_TooWide : PySem.W.findIn K (.ref eC_TooWide) "__init__" = some (some (.ref eI_TooWide)))
    (xt_TooWide : PySem.W.typeIn K (.ref eI_TooWide) = some (.type "function"))
    (xf_TooWide : K.lookup eI_TooWide = some (⟨oc_TooWide, od_TooWide, .func (PySem.W.fnX "__init__" "TooWide.__init__" (defArgs s_TooWide___init__) (defBody s_TooWide___init__) (defScope s_TooWide___init__) [("__class__", cc_TooWide)] .none kV_TooWide dc_TooWide pm_TooWide an_TooWide (.ref cda_TooWide) ct_TooWide), sl_TooWide⟩ : Obj))
    (xc_TooWide : PySem.W.codeIn K (.ref cda_TooWide) "TooWide.__init__" = true)
    (xk_TooWide : PySem.W.keepIn K (.ref eC_TooWide) = true)
    (xe_TooWide : PySem.W.subIn K (.ref eC_TooWide) (.type "BaseException") = some true)
    (xy_TooWide : PySem.W.typeIn K (.ref eC_TooWide) = some (.type "type"))
    (xh_TooWide : PySem.W.hasDictIn K eC_TooWide = true)
    (xj_TooWide : PySem.W.isClsIn K eC_TooWide = true)
    (xcell_TooWide : K.lookup cc_TooWide = some (⟨cl_TooWide, cld_TooWide, .cell (some (.ref eC_TooWide)), csl_TooWide⟩ : Obj))
    (xcode_TooWide : K.lookup cda_TooWide = some (⟨ccl_TooWide, cdd_TooWide, .fields vs_TooWide, ccs_TooWide⟩ : Obj))
    (xv_TooWide : vs_TooWide[2]? = some (.str file_TooWide tf_TooWide))
    (xfe_TooWide : ((l.prog.main.file : Str) == file_TooWide) = true)
    (xsup_TooWide : PySem.W.ks_superIn K eC_TooWide eC_TooWide "__init__" = some (some (.builtin "ValueError.__init__")))
    (xn_count_TooWide : PySem.W.findIn K (.ref eC_TooWide) "count" = some none)
    (xn_limit_TooWide : PySem.W.findIn K (.ref eC_TooWide) "limit" = some none)
    {eC_NotACut eI_NotACut cc_NotACut cda_NotACut N_NotACut : Addr} {nm_NotACut q_NotACut file_NotACut : Str} {tf_NotACut : Tok} {bs_NotACut bm_NotACut sub_NotACut : List Value} {sn_NotACut : List Str} {ab_NotACut : Bool} {col_NotACut : Option Bool} {dd_NotACut od_NotACut an_NotACut cld_NotACut cdd_NotACut : Option Addr} {m0_NotACut m1_NotACut m2_NotACut m3_NotACut m5_NotACut : Option Value} {sl_NotACut csl_NotACut ccs_NotACut : Array (Option Value)} {oc_NotACut kV_NotACut dc_NotACut pm_NotACut ct_NotACut cl_NotACut ccl_NotACut : Value} {vs_NotACut : Array Value}
    (xa_NotACut : PySem.W.nsIn K mainGlobals "NotACut" = some (some (.ref eC_NotACut)))
    (xl_NotACut : K.lookup eC_NotACut = some (excClassObj nm_NotACut q_NotACut eC_NotACut N_NotACut bs_NotACut bm_NotACut true sn_NotACut sub_NotACut ab_NotACut col_NotACut dd_NotACut m0_NotACut m1_NotACut m2_NotACut m3_NotACut m5_NotACut "ValueError.__new__"))
    (xr_NotACut : PySem.HandSPX.refsVE bm_NotACut = true)
    (xs_NotACut : PySem.W.findIn K (.ref eC_NotACut) "__setattr__" = some (some (.builtin "object.__setattr__")))
    (xga_NotACut : PySem.W.findIn K (.ref eC_NotACut) "__getattribute__" = some (some (.builtin "BaseException.__getattribute__")))
    (xgg_NotACut : PySem.W.findIn K (.ref eC_NotACut) "__getattr__" = some none)
    (xcl_NotACut : PySem.W.findIn K (.ref eC_NotACut) "__class__" = some (some (.builtin "object.__class__")))
    (xm_NotACut : PySem.W.mroIn K eC_NotACut (.type "object") = some true)
    (xi_NotACut : PySem.W.findIn K (.ref eC_NotACut) "__init__" = some (some (.ref eI_NotACut)))
    (xt_NotACut : PySem.W.typeIn K (.ref eI_NotACut) = some (.type "function"))
    (xf_NotACut : K.lookup eI_NotACut = some (⟨oc_NotACut, od_NotACut, .func (PySem.W.fnX "__init__" "NotACut.__init__" (defArgs s_NotACut___init__) (defBody s_NotACut___init__) (defScope s_NotACut___init__) [("__class__", cc_NotACut)] .none kV_NotACut dc_NotACut pm_NotACut an_NotACut (.ref cda_NotACut) ct_NotACut), sl_NotACut⟩ : Obj))
    (xc_NotACut : PySem.W.codeIn K (.ref cda_NotACut) "NotACut.__init__" = true)
    (xk_NotACut : PySem.W.keepIn K (.ref eC_NotACut) = true)
    (xe_NotACut : PySem.W.subIn K (.ref eC_NotACut) (.type "BaseException") = some true)
    (xy_NotACut : PySem.W.typeIn K (.ref eC_NotACut) = some (.type "type"))
    (xh_NotACut : PySem.W.hasDictIn K eC_NotACut = true)
    (xj_NotACut : PySem.W.isClsIn K eC_NotACut = true)
    (xcell_NotACut : K.lookup cc_NotACut = some (⟨cl_NotACut, cld_NotACut, .cell (some (.ref eC_NotACut)), csl_NotACut⟩ : Obj))
    (xcode_NotACut : K.lookup cda_NotACut = some (⟨ccl_NotACut, cdd_NotACut, .fields vs_NotACut, ccs_NotACut⟩ : Obj))
    (xv_NotACut : vs_NotACut[2]? = some (.str file_NotACut tf_NotACut))
    (xfe_NotACut : ((l.prog.main.file : Str) == file_NotACut) = true)
    (xsup_NotACut : PySem.W.ks_superIn K eC_NotACut eC_NotACut "__init__" = some (some (.builtin "ValueError.__init__")))
    (xn_node_NotACut : PySem.W.findIn K (.ref eC_NotACut) "node" = some none)
    {eC_TooLarge : Addr}
    (xa_TooLarge : PySem.W.nsIn K mainGlobals "TooLarge" = some (some (.ref eC_TooLarge)))
    (xe_TooLarge : PySem.W.subIn K (.ref eC_TooLarge) (.type "BaseException") = some true)
    (xy_TooLarge : PySem.W.typeIn K (.ref eC_TooLarge) = some (.type "type"))
    (xh_TooLarge : PySem.W.hasDictIn K eC_TooLarge = true)
    (xj_TooLarge : PySem.W.isClsIn K eC_TooLarge = true)
    {eC_GatesError : Addr}
    (xa_GatesError : PySem.W.nsIn K mainGlobals "GatesError" = some (some (.ref eC_GatesError)))
    (xe_GatesError : PySem.W.subIn K (.ref eC_GatesError) (.type "BaseException") = some true)
    (xy_GatesError : PySem.W.typeIn K (.ref eC_GatesError) = some (.type "type"))
    (xh_GatesError : PySem.W.hasDictIn K eC_GatesError = true)
    (xj_GatesError : PySem.W.isClsIn K eC_GatesError = true)
    (ki_TooWide_NotACut : PySem.W.subIn K (.ref eC_TooWide) (.ref eC_NotACut) = some false)
    (ne_TooWide_NotACut : (Value.ref eC_TooWide == Value.ref eC_NotACut) = false)
    (ki_TooWide_TooLarge : PySem.W.subIn K (.ref eC_TooWide) (.ref eC_TooLarge) = some false)
    (ne_TooWide_TooLarge : (Value.ref eC_TooWide == Value.ref eC_TooLarge) = false)
    (ki_TooWide_GatesError : PySem.W.subIn K (.ref eC_TooWide) (.ref eC_GatesError) = some true)
    (ki_TooWide_ValueError : PySem.W.subIn K (.ref eC_TooWide) (.type "ValueError") = some true)
    (ki_NotACut_TooLarge : PySem.W.subIn K (.ref eC_NotACut) (.ref eC_TooLarge) = some false)
    (ne_NotACut_TooLarge : (Value.ref eC_NotACut == Value.ref eC_TooLarge) = false)
    (ki_NotACut_GatesError : PySem.W.subIn K (.ref eC_NotACut) (.ref eC_GatesError) = some true)
    (ki_NotACut_ValueError : PySem.W.subIn K (.ref eC_NotACut) (.type "ValueError") = some true)
    (em_TooWide_TooWide : PySem.W.subIn K (.ref eC_TooWide) (.ref eC_TooWide) = some true)
    (em_NotACut_TooWide : PySem.W.subIn K (.ref eC_NotACut) (.ref eC_TooWide) = some false)
    (em_NotACut_NotACut : PySem.W.subIn K (.ref eC_NotACut) (.ref eC_NotACut) = some true)
    (xopq : PySem.W.nsIn K PySem.cStatics "thirdparty.any" = some none)
    (xtop : (l.prog.main.scope.names.lookup ("super" : Str)).isSome = false)
    (xsu : PySem.W.nsIn K mainGlobals "super" = some none)
    (xhn : PySem.W.specialIn K (.builtin "object.__class__") "__get__" = some (some (.builtin "getset_descriptor.__get__")))
    (xht : PySem.W.takesIn K (.builtin "object.__class__") = some true)
    : ∃ fd : FuncData, (∀ (s : Shared) (v : Value), BindsTo s fd ⟨[v], []⟩ [("script", v)]) ∧ ∀ base : Heap, K.In base → base.Ns mainGlobals mg → FnOk l.prog w K mg base CX0 8 fa fd ["script"] (spLaw K) := by
  have e := hfa.symm.trans (PySem.W.mg_of X G a32)
  cases e
  have T : Txt K mg (fun n => match n with | 100 => eC_TooWide | 101 => eC_NotACut | 102 => eC_TooLarge | 103 => eC_GatesError | 200 => eC_Graph | _ => 0) := ⟨PySem.W.mg_none_of X G z_ValueError, PySem.W.mg_none_of X G z_bool, PySem.W.mg_none_of X G z_enumerate, PySem.W.mg_none_of X G z_int, PySem.W.mg_none_of X G z_isinstance, PySem.W.mg_none_of X G z_len, PySem.W.mg_none_of X G z_list, PySem.W.mg_none_of X G z_max, PySem.W.mg_none_of X G z_min, PySem.W.mg_none_of X G z_range, PySem.W.mg_none_of X G z_sorted, PySem.W.mg_none_of X G z_sum, ⟨_, PySem.W.mg_of X G gg_MOST_LEAVES, ⟨_, rfl⟩⟩, PySem.W.mg_of X G xa_Graph, ⟨_, PySem.W.mg_of X G xa_Graph, rfl⟩, ⟨pg_Graph, hd_Graph, po_Graph, sa_Graph⟩, ⟨⟨pg_Graph, hd_Graph, po_Graph, sa_Graph⟩, xcl_Graph, xhn, xht, xm_Graph, WOwn.kit_self K _⟩, WOwn.eqK_of es0_Graph es1_Graph es2_Graph es3_Graph es4_Graph es5_Graph es6_Graph em0_Graph em1_Graph em2_Graph em3_Graph em4_Graph em5_Graph em6_Graph, xj_Graph, xy_Graph, nf__inputs_Graph, nf__regs_Graph, nf__ands_Graph, nf__outputs_Graph, PySem.W.mg_of X G xa_TooWide, ⟨_, PySem.W.mg_of X G xa_TooWide, rfl⟩, PySem.W.mg_of X G xa_NotACut, ⟨_, PySem.W.mg_of X G xa_NotACut, rfl⟩, PySem.W.mg_of X G xa_TooLarge, ⟨_, PySem.W.mg_of X G xa_TooLarge, rfl⟩, PySem.W.mg_of X G xa_GatesError, ⟨_, PySem.W.mg_of X G xa_GatesError, rfl⟩, ⟨xga_TooWide, xgg_TooWide, xe_TooWide, xh_TooWide⟩, ⟨xga_TooWide, xgg_TooWide, xe_TooWide, xh_TooWide, xcl_TooWide, xhn, xht, xm_TooWide⟩, ⟨⟨_, _, _, _, _, _, _, _, _, _, _, _, _, _, _, xl_TooWide, xr_TooWide⟩, xs_TooWide, xe_TooWide, xy_TooWide, xk_TooWide⟩, xn_count_TooWide, xn_limit_TooWide, ⟨xga_NotACut, xgg_NotACut, xe_NotACut, xh_NotACut⟩, ⟨xga_NotACut, xgg_NotACut, xe_NotACut, xh_NotACut, xcl_NotACut, xhn, xht, xm_NotACut⟩, ⟨⟨_, _, _, _, _, _, _, _, _, _, _, _, _, _, _, xl_NotACut, xr_NotACut⟩, xs_NotACut, xe_NotACut, xy_NotACut, xk_NotACut⟩, xn_node_NotACut, WExc.kit_refF xj_NotACut xy_NotACut ne_TooWide_NotACut ki_TooWide_NotACut, WExc.kit_refF xj_TooLarge xy_TooLarge ne_TooWide_TooLarge ki_TooWide_TooLarge, WExc.kit_refT xj_GatesError xy_GatesError ki_TooWide_GatesError, WExc.kit_ty (by decide +kernel) ki_TooWide_ValueError, WExc.kit_refF xj_TooLarge xy_TooLarge ne_NotACut_TooLarge ki_NotACut_TooLarge, WExc.kit_refT xj_GatesError xy_GatesError ki_NotACut_GatesError, WExc.kit_ty (by decide +kernel) ki_NotACut_ValueError, PySem.W.exm_ref xe_TooWide xh_TooWide xy_TooWide em_TooWide_TooWide, PySem.W.exm_ref xe_TooWide xh_TooWide xy_TooWide em_NotACut_TooWide, PySem.W.exm_ref xe_NotACut xh_NotACut xy_NotACut em_NotACut_NotACut⟩
  have F0 := fun_mk (st := s_input_bits) l0 c0 k0
  have F1 := fun_mk (st := s_first_and) l1 c1 k1
  have F2 := fun_mk (st := s_Graph___init__) l2 c2 k2
  have F3 := fun_mk (st := s_Graph_inputs) l3 c3 k3
  have F4 := fun_mk (st := s_Graph_regs) l4 c4 k4
  have F5 := fun_mk (st := s_Graph_ands) l5 c5 k5
  have F6 := fun_mk (st := s_Graph_outputs) l6 c6 k6
  have F7 := fun_mk (st := s_full_table) l7 c7 k7
  have F8 := fun_mk (st := s_variable) l8 c8 k8
  have F9 := fun_mk (st := s_literal_table) l9 c9 k9
  have F10 := fun_mk (st := s_cone_of) l10 c10 k10
  have F11 := fun_mk (st := s_leaves_of) l11 c11 k11
  have F12 := fun_mk (st := s_table_of) l12 c12 k12
  have F13 := fun_mk (st := s__law_is_number) l13 c13 k13
  have F14 := fun_mk (st := s__law_bag) l14 c14 k14
  have F15 := fun_mk (st := s__law_draw) l15 c15 k15
  have F16 := fun_mk (st := s__law_known) l16 c16 k16
  have F17 := fun_mk (st := s__law_both) l17 c17 k17
  have F18 := fun_mk (st := s__law_size) l18 c18 k18
  have F19 := fun_mk (st := s__law_literal) l19 c19 k19
  have F20 := fun_mk (st := s__law_chain) l20 c20 k20
  have F21 := fun_mk (st := s__law_world) l21 c21 k21
  have F22 := fun_mk (st := s__law_shuffled) l22 c22 k22
  have F23 := fun_mk (st := s__law_cut) l23 c23 k23
  have F24 := fun_mk (st := s__law_wide_cut) l24 c24 k24
  have F25 := fun_mk (st := s__law_met) l25 c25 k25
  have F26 := fun_mk (st := s__law_value) l26 c26 k26
  have F27 := fun_mk (st := s__law_asked) l27 c27 k27
  have F28 := fun_mk (st := s__law_choices) l28 c28 k28
  have F29 := fun_mk (st := s__law_right) l29 c29 k29
  have F30 := fun_mk (st := s__law_leaves_right) l30 c30 k30
  have F31 := fun_mk (st := s__law_stays) l31 c31 k31
  have F32 := fun_mk (st := s_law) l32 c32 k32
  have b0 := F0.binds (ps := ["graph"]) fun _ _ _ _ _ _ us hl => match us, hl with | [_], _ => rfl
  have b1 := F1.binds (ps := ["graph"]) fun _ _ _ _ _ _ us hl => match us, hl with | [_], _ => rfl
  have b2 := F2.binds (ps := ["self", "inputs", "regs", "ands", "outputs"]) fun _ _ _ _ _ _ us hl => match us, hl with | [_, _, _, _, _], _ => rfl
  have b3 := F3.binds (ps := ["self"]) fun _ _ _ _ _ _ us hl => match us, hl with | [_], _ => rfl
  have b4 := F4.binds (ps := ["self"]) fun _ _ _ _ _ _ us hl => match us, hl with | [_], _ => rfl
  have b5 := F5.binds (ps := ["self"]) fun _ _ _ _ _ _ us hl => match us, hl with | [_], _ => rfl
  have b6 := F6.binds (ps := ["self"]) fun _ _ _ _ _ _ us hl => match us, hl with | [_], _ => rfl
  have b7 := F7.binds (ps := ["count"]) fun _ _ _ _ _ _ us hl => match us, hl with | [_], _ => rfl
  have b8 := F8.binds (ps := ["i", "count"]) fun _ _ _ _ _ _ us hl => match us, hl with | [_, _], _ => rfl
  have b9 := F9.binds (ps := ["tables", "literal", "full"]) fun _ _ _ _ _ _ us hl => match us, hl with | [_, _, _], _ => rfl
  have b10 := F10.binds (ps := ["graph", "node", "stops"]) fun _ _ _ _ _ _ us hl => match us, hl with | [_, _, _], _ => rfl
  have b11 := F11.binds (ps := ["graph", "literal"]) fun _ _ _ _ _ _ us hl => match us, hl with | [_, _], _ => rfl
  have b12 := F12.binds (ps := ["graph", "literal", "leaves"]) fun _ _ _ _ _ _ us hl => match us, hl with | [_, _, _], _ => rfl
  have b13 := F13.binds (ps := ["thing"]) fun _ _ _ _ _ _ us hl => match us, hl with | [_], _ => rfl
  have b14 := F14.binds (ps := ["script"]) fun _ _ _ _ _ _ us hl => match us, hl with | [_], _ => rfl
  have b15 := F15.binds (ps := ["bag", "size"]) fun _ _ _ _ _ _ us hl => match us, hl with | [_, _], _ => rfl
  have b16 := F16.binds (ps := ["made", "x", "y"]) fun _ _ _ _ _ _ us hl => match us, hl with | [_, _, _], _ => rfl
  have b17 := F17.binds (ps := ["made", "x", "y"]) fun _ _ _ _ _ _ us hl => match us, hl with | [_, _, _], _ => rfl
  have b18 := F18.binds (ps := ["made"]) fun _ _ _ _ _ _ us hl => match us, hl with | [_], _ => rfl
  have b19 := F19.binds (ps := ["bag", "made"]) fun _ _ _ _ _ _ us hl => match us, hl with | [_, _], _ => rfl
  have b20 := F20.binds (ps := ["bag", "made"]) fun _ _ _ _ _ _ us hl => match us, hl with | [_, _], _ => rfl
  have b21 := F21.binds (ps := ["bag", "wide"]) fun _ _ _ _ _ _ us hl => match us, hl with | [_, _], _ => rfl
  have b22 := F22.binds (ps := ["bag", "items"]) fun _ _ _ _ _ _ us hl => match us, hl with | [_, _], _ => rfl
  have b23 := F23.binds (ps := ["bag", "made", "node"]) fun _ _ _ _ _ _ us hl => match us, hl with | [_, _, _], _ => rfl
  have b24 := F24.binds (ps := ["bag", "made"]) fun _ _ _ _ _ _ us hl => match us, hl with | [_, _], _ => rfl
  have b25 := F25.binds (ps := ["made", "node", "leaves"]) fun _ _ _ _ _ _ us hl => match us, hl with | [_, _, _], _ => rfl
  have b26 := F26.binds (ps := ["made", "chosen", "literal"]) fun _ _ _ _ _ _ us hl => match us, hl with | [_, _, _], _ => rfl
  have b27 := F27.binds (ps := ["graph", "literal", "leaves"]) fun _ _ _ _ _ _ us hl => match us, hl with | [_, _, _], _ => rfl
  have b28 := F28.binds (ps := ["bag", "count"]) fun _ _ _ _ _ _ us hl => match us, hl with | [_, _], _ => rfl
  have b29 := F29.binds (ps := ["bag", "graph", "made", "literal", "leaves"]) fun _ _ _ _ _ _ us hl => match us, hl with | [_, _, _, _, _], _ => rfl
  have b30 := F30.binds (ps := ["graph", "made", "literal"]) fun _ _ _ _ _ _ us hl => match us, hl with | [_, _, _], _ => rfl
  have b31 := F31.binds (ps := ["graph", "made"]) fun _ _ _ _ _ _ us hl => match us, hl with | [_, _], _ => rfl
  refine ⟨PySem.W.fnOf "law" "law" (defArgs s_law) (defBody s_law) (defScope s_law) .none kV32 dc32 pm32 an32 cd32 ct32, fun s v => .of_eq rfl, fun base _ _ => ?_⟩
  have c__law_bag : C8.Cal l.prog w K mg base 1 "_law_bag" (spBag K) [] := ⟨_, _, ["script"], [], ok__law_bag T  F14, PySem.W.mg_of X G a14, k14, b14, .nil⟩
  have c__law_draw : C8.Cal l.prog w K mg base 1 "_law_draw" spDraw [] := ⟨_, _, ["bag", "size"], [], ok__law_draw T  F15, PySem.W.mg_of X G a15, k15, b15, .nil⟩
  have c__law_known : C8.Cal l.prog w K mg base 1 "_law_known" spKnown [] := ⟨_, _, ["made", "x", "y"], [], ok__law_known T  F16, PySem.W.mg_of X G a16, k16, b16, .nil⟩
  have c__law_both : C8.Cal l.prog w K mg base 2 "_law_both" spBoth [] := ⟨_, _, ["made", "x", "y"], [], ok__law_both T c__law_known F17, PySem.W.mg_of X G a17, k17, b17, .nil⟩
  have c__law_chain : C8.Cal l.prog w K mg base 3 "_law_chain" spChain [] := ⟨_, _, ["bag", "made"], [], ok__law_chain T c__law_draw c__law_both F20, PySem.W.mg_of X G a20, k20, b20, .nil⟩
  have c__law_size : C8.Cal l.prog w K mg base 1 "_law_size" spSize [] := ⟨_, _, ["made"], [], ok__law_size T  F18, PySem.W.mg_of X G a18, k18, b18, .nil⟩
  have c__law_literal : C8.Cal l.prog w K mg base 2 "_law_literal" spLitr [] := ⟨_, _, ["bag", "made"], [], ok__law_literal T c__law_draw c__law_size F19, PySem.W.mg_of X G a19, k19, b19, .nil⟩
  have c__law_world : C8.Cal l.prog w K mg base 4 "_law_world" (spWorld) [] := ⟨_, _, ["bag", "wide"], [], ok__law_world T c__law_draw c__law_chain c__law_literal c__law_both F21, PySem.W.mg_of X G a21, k21, b21, .nil⟩
  have c_Graph_regs : C8.Met l.prog w K mg base 1 eC_Graph "regs" (spCopy eC_Graph Gr.regs) [] := ⟨⟨_, _, ["self"], [], T.cl_Graph, ⟨a4, n4, k4⟩, ok_Graph_regs T  F4, b4, .nil⟩⟩
  have c_Graph_ands : C8.Met l.prog w K mg base 1 eC_Graph "ands" (spCopy eC_Graph Gr.ands) [] := ⟨⟨_, _, ["self"], [], T.cl_Graph, ⟨a5, n5, k5⟩, ok_Graph_ands T  F5, b5, .nil⟩⟩
  have c_Graph_outputs : C8.Met l.prog w K mg base 1 eC_Graph "outputs" (spOuts eC_Graph) [] := ⟨⟨_, _, ["self"], [], T.cl_Graph, ⟨a6, n6, k6⟩, ok_Graph_outputs T  F6, b6, .nil⟩⟩
  have c_Graph_inputs : C8.Met l.prog w K mg base 1 eC_Graph "inputs" (spCopy eC_Graph Gr.ins) [] := ⟨⟨_, _, ["self"], [], T.cl_Graph, ⟨a3, n3, k3⟩, ok_Graph_inputs T  F3, b3, .nil⟩⟩
  have c__law_stays : C8.Cal l.prog w K mg base 2 "_law_stays" (spStays eC_Graph) [] := ⟨_, _, ["graph", "made"], [], ok__law_stays T c_Graph_regs c_Graph_ands c_Graph_outputs c_Graph_inputs F31, PySem.W.mg_of X G a31, k31, b31, .nil⟩
  have c__law_shuffled : C8.Cal l.prog w K mg base 2 "_law_shuffled" spShuf [] := ⟨_, _, ["bag", "items"], [], ok__law_shuffled T c__law_draw F22, PySem.W.mg_of X G a22, k22, b22, .nil⟩
  have c__law_cut : C8.Cal l.prog w K mg base 3 "_law_cut" spCut [] := ⟨_, _, ["bag", "made", "node"], [], ok__law_cut T c__law_shuffled c__law_draw c__law_size F23, PySem.W.mg_of X G a23, k23, b23, .nil⟩
  have c__law_wide_cut : C8.Cal l.prog w K mg base 3 "_law_wide_cut" spWcut [] := ⟨_, _, ["bag", "made"], [], ok__law_wide_cut T c__law_draw c__law_shuffled c__law_size F24, PySem.W.mg_of X G a24, k24, b24, .nil⟩
  have c_input_bits : C8.Cal l.prog w K mg base 2 "input_bits" (spBits eC_Graph) [] := ⟨_, _, ["graph"], [], ok_input_bits T c_Graph_inputs F0, PySem.W.mg_of X G a0, k0, b0, .nil⟩
  have c_first_and : C8.Cal l.prog w K mg base 3 "first_and" (spFirst eC_Graph) [] := ⟨_, _, ["graph"], [], ok_first_and T c_input_bits c_Graph_regs F1, PySem.W.mg_of X G a1, k1, b1, .nil⟩
  have c_cone_of : C8.Cal l.prog w K mg base 4 "cone_of" (spCone eC_Graph) [] := ⟨_, _, ["graph", "node", "stops"], [], ok_cone_of T c_first_and c_Graph_ands F10, PySem.W.mg_of X G a10, k10, b10, .nil⟩
  have c_full_table : C8.Cal l.prog w K mg base 1 "full_table" spFull [] := ⟨_, _, ["count"], [], ok_full_table T  F7, PySem.W.mg_of X G a7, k7, b7, .nil⟩
  have c_literal_table : C8.Cal l.prog w K mg base 1 "literal_table" spLit [] := ⟨_, _, ["tables", "literal", "full"], [], ok_literal_table T  F9, PySem.W.mg_of X G a9, k9, b9, .nil⟩
  have c_variable : C8.Cal l.prog w K mg base 1 "variable" spVar [] := ⟨_, _, ["i", "count"], [], ok_variable T  F8, PySem.W.mg_of X G a8, k8, b8, .nil⟩
  have FS_TooWide : WExc.FunS K "__init__" "TooWide.__init__" s_TooWide___init__ eI_TooWide cc_TooWide cda_TooWide _ := ⟨⟨_, _, _, _, _, _, _, _, rfl, xf_TooWide, xc_TooWide⟩⟩
  have U_TooWide : WExc.SupK l.prog K eC_TooWide cc_TooWide cda_TooWide := ⟨⟨_, _, _, xcell_TooWide⟩, ⟨_, _, _, _, _, _, xcode_TooWide, xv_TooWide, xfe_TooWide⟩, xopq, xtop, xsup_TooWide⟩
  have x_TooWide : WExc.Exc l.prog w K mg base "TooWide" eC_TooWide 2 (WExc.spIni eC_TooWide 2 ok_TooWide fs_TooWide) := ⟨PySem.W.mg_of X G xa_TooWide, T.xo_TooWide, ⟨_, _, _, xi_TooWide, xt_TooWide, ok_TooWide___init__ T  FS_TooWide U_TooWide (PySem.W.mg_none_of X G xsu), FS_TooWide.binds (ps := ["self", "count", "limit"]) fun _ _ _ _ _ _ us hl => match us, hl with | [_, _, _], _ => rfl⟩⟩
  have FS_NotACut : WExc.FunS K "__init__" "NotACut.__init__" s_NotACut___init__ eI_NotACut cc_NotACut cda_NotACut _ := ⟨⟨_, _, _, _, _, _, _, _, rfl, xf_NotACut, xc_NotACut⟩⟩
  have U_NotACut : WExc.SupK l.prog K eC_NotACut cc_NotACut cda_NotACut := ⟨⟨_, _, _, xcell_NotACut⟩, ⟨_, _, _, _, _, _, xcode_NotACut, xv_NotACut, xfe_NotACut⟩, xopq, xtop, xsup_NotACut⟩
  have x_NotACut : WExc.Exc l.prog w K mg base "NotACut" eC_NotACut 2 (WExc.spIni eC_NotACut 1 ok_NotACut fs_NotACut) := ⟨PySem.W.mg_of X G xa_NotACut, T.xo_NotACut, ⟨_, _, _, xi_NotACut, xt_NotACut, ok_NotACut___init__ T  FS_NotACut U_NotACut (PySem.W.mg_none_of X G xsu), FS_NotACut.binds (ps := ["self", "node"]) fun _ _ _ _ _ _ us hl => match us, hl with | [_, _], _ => rfl⟩⟩
  have c_table_of : WExc.CalX l.prog w K mg base 5 "table_of" (spTable eC_Graph eC_TooWide eC_NotACut) := ⟨_, _, ["graph", "literal", "leaves"], ok_table_of T c_cone_of c_first_and c_full_table c_literal_table c_variable x_TooWide x_NotACut c_Graph_ands F12, PySem.W.mg_of X G a12, k12, b12⟩
  have c__law_asked : C8.Cal l.prog w K mg base 6 "_law_asked" (spAsked eC_Graph) [] := ⟨_, _, ["graph", "literal", "leaves"], [], ok__law_asked T c_table_of F27, PySem.W.mg_of X G a27, k27, b27, .nil⟩
  have c__law_met : C8.Cal l.prog w K mg base 1 "_law_met" spMet [] := ⟨_, _, ["made", "node", "leaves"], [], ok__law_met T  F25, PySem.W.mg_of X G a25, k25, b25, .nil⟩
  have c__law_choices : C8.Cal l.prog w K mg base 2 "_law_choices" spChoices [] := ⟨_, _, ["bag", "count"], [], ok__law_choices T c__law_draw F28, PySem.W.mg_of X G a28, k28, b28, .nil⟩
  have c__law_is_number : C8.Cal l.prog w K mg base 1 "_law_is_number" spNum [] := ⟨_, _, ["thing"], [], ok__law_is_number T  F13, PySem.W.mg_of X G a13, k13, b13, .nil⟩
  have c__law_value : C8.Cal l.prog w K mg base 1 "_law_value" spVal [] := ⟨_, _, ["made", "chosen", "literal"], [], ok__law_value T  F26, PySem.W.mg_of X G a26, k26, b26, .nil⟩
  have c__law_right : C8.Cal l.prog w K mg base 7 "_law_right" (spRight eC_Graph) [] := ⟨_, _, ["bag", "graph", "made", "literal", "leaves"], [], ok__law_right T c__law_asked c__law_met c__law_choices c__law_is_number c__law_value F29, PySem.W.mg_of X G a29, k29, b29, .nil⟩
  have c_leaves_of : C8.Cal l.prog w K mg base 5 "leaves_of" (spLeaves eC_Graph) [] := ⟨_, _, ["graph", "literal"], [], ok_leaves_of T c_cone_of F11, PySem.W.mg_of X G a11, k11, b11, .nil⟩
  have c__law_leaves_right : C8.Cal l.prog w K mg base 6 "_law_leaves_right" (spLvR eC_Graph) [] := ⟨_, _, ["graph", "made", "literal"], [], ok__law_leaves_right T c__law_met c_leaves_of c__law_is_number F30, PySem.W.mg_of X G a30, k30, b30, .nil⟩
  have m_Graph : C8.Mak l.prog w K mg base 1 "Graph" eC_Graph (spMkG eC_Graph) [] := ⟨⟨_, _, ["self", "inputs", "regs", "ands", "outputs"], [], ⟨mk_Graph, a2, n2, xk_Graph⟩, ok_Graph___init__ T  F2, PySem.W.mg_of X G xa_Graph, b2, .nil⟩⟩
  exact ok_law T c__law_bag c__law_world c__law_stays c__law_draw c__law_literal c__law_cut c__law_wide_cut c__law_right c__law_leaves_right m_Graph F32
end K22
open PySem PySem.W PyProof.Rows
set_option maxRecDepth 100000 in
set_option maxHeartbeats 0 in
theorem PySem.Challenge.cw_gatesworn_k22_tables_of_cuts_holds : PySem.Challenge.rw_gatesworn_k22_tables_of_cuts.Holds := by
  w_on; o_law; k_head; (case hw => w_witness2)
  k_fill
  refine L2.walk_of (l := PySem.Challenge.rw_gatesworn_k22_tables_of_cuts) (n := 63) (k := 8) (x := "script") (CX := fun _ => L2.CX0) (sp := fun w => K22.spLaw _) rfl (by decide) rfl ⟨rfl, by decide, by decide⟩ (fun w h Y => PySem.W.kIn_of Y) ?F (fun _ _ a ns hl _ hS => ⟨a, ns, rfl, hS, hl, fun _ => rfl⟩) (fun _ _ _ _ _ h => h)
  case F =>
    intro w mg fa h KX G hmg
    refine' K22.all_mk KX G hmg ?a0 ?l0 ?c0 ?k0 ?a1 ?l1 ?c1 ?k1 ?a2 ?n2 ?l2 ?c2 ?k2 ?a3 ?n3 ?l3 ?c3 ?k3 ?a4 ?n4 ?l4 ?c4 ?k4 ?a5 ?n5 ?l5 ?c5 ?k5 ?a6 ?n6 ?l6 ?c6 ?k6 ?a7 ?l7 ?c7 ?k7 ?a8 ?l8 ?c8 ?k8 ?a9 ?l9 ?c9 ?k9 ?a10 ?l10 ?c10 ?k10 ?a11 ?l11 ?c11 ?k11 ?a12 ?l12 ?c12 ?k12 ?a13 ?l13 ?c13 ?k13 ?a14 ?l14 ?c14 ?k14 ?a15 ?l15 ?c15 ?k15 ?a16 ?l16 ?c16 ?k16 ?a17 ?l17 ?c17 ?k17 ?a18 ?l18 ?c18 ?k18 ?a19 ?l19 ?c19 ?k19 ?a20 ?l20 ?c20 ?k20 ?a21 ?l21 ?c21 ?k21 ?a22 ?l22 ?c22 ?k22 ?a23 ?l23 ?c23 ?k23 ?a24 ?l24 ?c24 ?k24 ?a25 ?l25 ?c25 ?k25 ?a26 ?l26 ?c26 ?k26 ?a27 ?l27 ?c27 ?k27 ?a28 ?l28 ?c28 ?k28 ?a29 ?l29 ?c29 ?k29 ?a30 ?l30 ?c30 ?k30 ?a31 ?l31 ?c31 ?k31 ?a32 ?l32 ?c32 ?k32 ?z_ValueError ?z_bool ?z_enumerate ?z_int ?z_isinstance ?z_len ?z_list ?z_max ?z_min ?z_range ?z_sorted ?z_sum ?gg_MOST_LEAVES ?xa_Graph ?pg_Graph ?hd_Graph ?po_Graph ?sa_Graph ?mk_Graph ?xk_Graph ?xcl_Graph ?xm_Graph ?xj_Graph ?xy_Graph ?sf_Graph ?rd_Graph ?ga_Graph ?es0_Graph ?es1_Graph ?es2_Graph ?es3_Graph ?es4_Graph ?es5_Graph ?es6_Graph ?em0_Graph ?em1_Graph ?em2_Graph ?em3_Graph ?em4_Graph ?em5_Graph ?em6_Graph ?nf__inputs_Graph ?nf__regs_Graph ?nf__ands_Graph ?nf__outputs_Graph ?xa_TooWide ?xl_TooWide ?xr_TooWide ?xs_TooWide ?xga_TooWide ?xgg_TooWide ?xcl_TooWide ?xm_TooWide ?xi_TooWide ?xt_TooWide ?xf_TooWide ?xc_TooWide ?xk_TooWide ?xe_TooWide ?xy_TooWide ?xh_TooWide ?xj_TooWide ?xcell_TooWide ?xcode_TooWide ?xv_TooWide ?xfe_TooWide ?xsup_TooWide ?xn_count_TooWide ?xn_limit_TooWide ?xa_NotACut ?xl_NotACut ?xr_NotACut ?xs_NotACut ?xga_NotACut ?xgg_NotACut ?xcl_NotACut ?xm_NotACut ?xi_NotACut ?xt_NotACut ?xf_NotACut ?xc_NotACut ?xk_NotACut ?xe_NotACut ?xy_NotACut ?xh_NotACut ?xj_NotACut ?xcell_NotACut ?xcode_NotACut ?xv_NotACut ?xfe_NotACut ?xsup_NotACut ?xn_node_NotACut ?xa_TooLarge ?xe_TooLarge ?xy_TooLarge ?xh_TooLarge ?xj_TooLarge ?xa_GatesError ?xe_GatesError ?xy_GatesError ?xh_GatesError ?xj_GatesError ?ki_TooWide_NotACut ?ne_TooWide_NotACut ?ki_TooWide_TooLarge ?ne_TooWide_TooLarge ?ki_TooWide_GatesError ?ki_TooWide_ValueError ?ki_NotACut_TooLarge ?ne_NotACut_TooLarge ?ki_NotACut_GatesError ?ki_NotACut_ValueError ?em_TooWide_TooWide ?em_NotACut_TooWide ?em_NotACut_NotACut ?xopq ?xtop ?xsu ?xhn ?xht
    (case xa_Graph => k_is); (case xa_TooWide => k_is); (case xa_NotACut => k_is); (case xa_TooLarge => k_is); (case xa_GatesError => k_is); (case a0 => k_is); (case l0 => k_is); (case c0 => k_is); (case k0 => k_is); (case a1 => k_is); (case l1 => k_is); (case c1 => k_is); (case k1 => k_is); (case a2 => k_is); (case n2 => k_is); (case l2 => k_is); (case c2 => k_is); (case k2 => k_is); (case a3 => k_is); (case n3 => k_is); (case l3 => k_is); (case c3 => k_is); (case k3 => k_is); (case a4 => k_is); (case n4 => k_is); (case l4 => k_is); (case c4 => k_is); (case k4 => k_is); (case a5 => k_is); (case n5 => k_is); (case l5 => k_is); (case c5 => k_is); (case k5 => k_is); (case a6 => k_is); (case n6 => k_is); (case l6 => k_is); (case c6 => k_is); (case k6 => k_is); (case a7 => k_is); (case l7 => k_is); (case c7 => k_is); (case k7 => k_is); (case a8 => k_is); (case l8 => k_is); (case c8 => k_is); (case k8 => k_is); (case a9 => k_is); (case l9 => k_is); (case c9 => k_is); (case k9 => k_is); (case a10 => k_is); (case l10 => k_is); (case c10 => k_is); (case k10 => k_is); (case a11 => k_is); (case l11 => k_is); (case c11 => k_is); (case k11 => k_is); (case a12 => k_is); (case l12 => k_is); (case c12 => k_is); (case k12 => k_is); (case a13 => k_is); (case l13 => k_is); (case c13 => k_is); (case k13 => k_is); (case a14 => k_is); (case l14 => k_is); (case c14 => k_is); (case k14 => k_is); (case a15 => k_is); (case l15 => k_is); (case c15 => k_is); (case k15 => k_is); (case a16 => k_is); (case l16 => k_is); (case c16 => k_is); (case k16 => k_is); (case a17 => k_is); (case l17 => k_is); (case c17 => k_is); (case k17 => k_is); (case a18 => k_is); (case l18 => k_is); (case c18 => k_is); (case k18 => k_is); (case a19 => k_is); (case l19 => k_is); (case c19 => k_is); (case k19 => k_is); (case a20 => k_is); (case l20 => k_is); (case c20 => k_is); (case k20 => k_is); (case a21 => k_is); (case l21 => k_is); (case c21 => k_is); (case k21 => k_is); (case a22 => k_is); (case l22 => k_is); (case c22 => k_is); (case k22 => k_is); (case a23 => k_is); (case l23 => k_is); (case c23 => k_is); (case k23 => k_is); (case a24 => k_is); (case l24 => k_is); (case c24 => k_is); (case k24 => k_is); (case a25 => k_is); (case l25 => k_is); (case c25 => k_is); (case k25 => k_is); (case a26 => k_is); (case l26 => k_is); (case c26 => k_is); (case k26 => k_is); (case a27 => k_is); (case l27 => k_is); (case c27 => k_is); (case k27 => k_is); (case a28 => k_is); (case l28 => k_is); (case c28 => k_is); (case k28 => k_is); (case a29 => k_is); (case l29 => k_is); (case c29 => k_is); (case k29 => k_is); (case a30 => k_is); (case l30 => k_is); (case c30 => k_is); (case k30 => k_is); (case a31 => k_is); (case l31 => k_is); (case c31 => k_is); (case k31 => k_is); (case a32 => k_is); (case l32 => k_is); (case c32 => k_is); (case k32 => k_is); (case z_ValueError => k_is); (case z_bool => k_is); (case z_enumerate => k_is); (case z_int => k_is); (case z_isinstance => k_is); (case z_len => k_is); (case z_list => k_is); (case z_max => k_is); (case z_min => k_is); (case z_range => k_is); (case z_sorted => k_is); (case z_sum => k_is); (case gg_MOST_LEAVES => k_is); (case pg_Graph => k_is); (case hd_Graph => k_is); (case po_Graph => k_is); (case sa_Graph => k_is); (case mk_Graph => k_is); (case xk_Graph => k_is); (case xcl_Graph => k_is); (case xm_Graph => k_is); (case xj_Graph => k_is); (case xy_Graph => k_is); (case sf_Graph => k_is); (case rd_Graph => k_is); (case ga_Graph => k_is); (case es0_Graph => k_is); (case es1_Graph => k_is); (case es2_Graph => k_is); (case es3_Graph => k_is); (case es4_Graph => k_is); (case es5_Graph => k_is); (case es6_Graph => k_is); (case em0_Graph => k_is); (case em1_Graph => k_is); (case em2_Graph => k_is); (case em3_Graph => k_is); (case em4_Graph => k_is); (case em5_Graph => k_is); (case em6_Graph => k_is); (case nf__inputs_Graph => k_is); (case nf__regs_Graph => k_is); (case nf__ands_Graph => k_is); (case nf__outputs_Graph => k_is); (case xl_TooWide => k_is); (case xr_TooWide => first | rfl | decide +kernel | kernel_rfl); (case xs_TooWide => k_is); (case xga_TooWide => k_is); (case xgg_TooWide => k_is); (case xcl_TooWide => k_is); (case xm_TooWide => k_is); (case xi_TooWide => k_is); (case xt_TooWide => k_is); (case xf_TooWide => k_is); (case xc_TooWide => k_is); (case xk_TooWide => k_is); (case xe_TooWide => k_is); (case xy_TooWide => k_is); (case xh_TooWide => k_is); (case xj_TooWide => k_is); (case xcell_TooWide => k_is); (case xcode_TooWide => k_is); (case xv_TooWide => rfl); (case xfe_TooWide => first | rfl | decide +kernel | kernel_rfl); (case xsup_TooWide => ks_is); (case xn_count_TooWide => k_is); (case xn_limit_TooWide => k_is); (case xl_NotACut => k_is); (case xr_NotACut => first | rfl | decide +kernel | kernel_rfl); (case xs_NotACut => k_is); (case xga_NotACut => k_is); (case xgg_NotACut => k_is); (case xcl_NotACut => k_is); (case xm_NotACut => k_is); (case xi_NotACut => k_is); (case xt_NotACut => k_is); (case xf_NotACut => k_is); (case xc_NotACut => k_is); (case xk_NotACut => k_is); (case xe_NotACut => k_is); (case xy_NotACut => k_is); (case xh_NotACut => k_is); (case xj_NotACut => k_is); (case xcell_NotACut => k_is); (case xcode_NotACut => k_is); (case xv_NotACut => rfl); (case xfe_NotACut => first | rfl | decide +kernel | kernel_rfl); (case xsup_NotACut => ks_is); (case xn_node_NotACut => k_is); (case xe_TooLarge => k_is); (case xy_TooLarge => k_is); (case xh_TooLarge => k_is); (case xj_TooLarge => k_is); (case xe_GatesError => k_is); (case xy_GatesError => k_is); (case xh_GatesError => k_is); (case xj_GatesError => k_is); (case ki_TooWide_NotACut => k_is); (case ne_TooWide_NotACut => first | rfl | decide +kernel); (case ki_TooWide_TooLarge => k_is); (case ne_TooWide_TooLarge => first | rfl | decide +kernel); (case ki_TooWide_GatesError => k_is); (case ki_TooWide_ValueError => k_is); (case ki_NotACut_TooLarge => k_is); (case ne_NotACut_TooLarge => first | rfl | decide +kernel); (case ki_NotACut_GatesError => k_is); (case ki_NotACut_ValueError => k_is); (case em_TooWide_TooWide => k_is); (case em_NotACut_TooWide => k_is); (case em_NotACut_NotACut => k_is); (case xopq => k_is); (case xtop => first | rfl | decide +kernel); (case xsu => k_is); (case xhn => k_is); (case xht => k_is)
