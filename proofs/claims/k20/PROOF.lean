import PyProof.Rows.All
import Wide.All
import OpenK.AllK
import Wide.FinOn
import HandS.ForMost
import HandS.SortKw
import HandS.TupLe
import HandS.TupSets
import HandS.Conv
import HandS.Dict
import HandS.More
import HandS.HeadHook3
import KE.KExcSuper
import HandS.ExcInit
import HandS.ExcField
import HandS.CallRecv
import HandS.HeadWalk
import HandS.Wide
import HandS.Deep
import HandS.Flow
import HandS.TupAny
import HandS.Strs
import HandS.StrMore
import HandS.Replace
import HandS.ReplaceLit
import HandS.Iter
import KE.GoesEnum
import KE.GoesMore
import HandS.IsInst
import KE.KIndexOf
import HandS.FStr
import PyProof.FString3
import PyProof.Rows.StrIntSpec
import HandS.Style
import HandS.WideMore
import KE.KStateDown
import HandS.Ends
import HandS.Words
import HandS.WordsExc
import HandS.Defaults
import HandS.Head0
import HandS.Head1
import HandS.Head2
import HandS.HeadEnd
import HandS.EndBits
import HandS.HeadHook1
import HandS.HeadHook2
import HandS.ReplaceList
import KE.BitLaws
import PySem.Challenge.RW_ownanswer_k20_integers_in_octets
set_option Elab.async false
set_option linter.all false
set_option maxRecDepth 100000
set_option maxHeartbeats 1000000
set_option autoImplicit false
/-! MP0: rules of built-ins that the hand layer lacks. -/
namespace MP
open PySem PySem.Spec PyProof.Rows L2

/-! ### max(list, default=d) -/
section
variable {pr : Program} {wo : World} {ar : Around} {RQ : Result → Shared → Prop} {it : Addr} {fo wr : List Addr} {cnt : Nat} {PP : Nat → Value → Prop} {SS : Nat → Heap → Prop}
abbrev kwD (dv : Value) : List (Str × Value) := [(Str.ofString "default", dv)]
theorem mxd_name : (toString "max" ++ toString ".loop" : String) = "max.loop" := by decide
theorem mxd_turns (WK : Walks pr wo ar.in1 it fo wr cnt PP SS) (dv : Value) (better : Nat → Nat → Bool) (hgt : CmpOf pr wo ar.in1 .Gt PP better) (B : Addr) (hB : B ∉ fo) :
    ∀ (left at_ : Nat) (sh : Shared) (best : Value) (ep : Nat), cnt - (at_ + 1) = left → at_ + 1 ≤ cnt → SS (at_ + 1) sh.heap → PP (argBest better at_) best →
    sh.heap.get? B = some { cls := .type "list", dict := none, data := .seq #[best, best] ep, slots := #[] } →
    (∀ u hp tk, PP (argBest better (cnt - 1)) u → (∀ b o, b ∉ wr → b ≠ B → sh.heap.get? b = some o → hp.get? b = some o) → RQ (.ok (.ret u)) { sh with heap := hp, toks := tk }) →
    codeAny (model pr wo) ar (.builtin "max.loop" ⟨[.ref it, .none, .ref B], kwD dv⟩) RQ sh := by
  have hBw : B ∉ wr := fun z => hB (WK.sub _ z)
  intro left
  induction left with
  | zero =>
    intro at_ sh best ep e1 e2 hst hbest hobj fin
    obtain rfl : at_ + 1 = cnt := by omega
    refine codeAny_builtin F.entry_max_loop ?_
    rw [Around.under_plainId F.plain_max_loop _]
    show wpAny _ ar.in1 (seqItems? (.ref B) >>= _) _ _ sh
    refine wpAny_bind (wpAny_seqItems hobj rfl ?_)
    show wpAny _ ar.in1 (tryCatch (pyNext (.ref it)) _ >>= _) _ _ sh
    refine wpAny_bind (wpAny_tryCatch (WK.done sh _ _ hst fun hp tk keep => ?_))
    have hobj2 := keep B _ hBw hobj
    show wpAny _ ar.in1 (updateSeq B (fun _ => #[]) >>= _) _ _ _
    refine wpAny_bind ?_
    refine wpAny_updateSeq hobj2 rfl (wpAny_bind (wpAny_letGo (wpAny_pure ?_)))
    exact fin best _ tk hbest fun b o z1 z2 z3 => (Heap.get?_update_other _ _ (Ne.symm z2)).trans (keep b o z1 z3)
  | succ left ih =>
    intro at_ sh best ep e1 e2 hst hbest hobj fin
    have more : at_ + 1 < cnt := by omega
    refine codeAny_builtin F.entry_max_loop ?_
    rw [Around.under_plainId F.plain_max_loop _]
    show wpAny _ ar.in1 (seqItems? (.ref B) >>= _) _ _ sh
    refine wpAny_bind (wpAny_seqItems hobj rfl ?_)
    show wpAny _ ar.in1 (tryCatch (pyNext (.ref it)) _ >>= _) _ _ sh
    refine wpAny_bind (wpAny_tryCatch (WK.item (at_ + 1) sh _ _ more hst fun u hp tk pu hst2 keep => ?_))
    have hobj2 := keep B _ hBw hobj
    show wpAny _ ar.in1 (tryCatch (holding [u, u] (richCompare .Gt u best >>= _)) _ >>= _) _ _ _
    refine wpAny_bind (wpAny_tryCatch (wpAny_holding (wpAny_bind (hgt (at_ + 1) (argBest better at_) u best _ _ _ pu hbest ?_))))
    refine wpAny_bind (wpAny_holding (wpAny_truthy_bool ?_))
    refine wpAny_bind (wpAny_letGo (wpAny_pure ?_))
    cases hb : better (at_ + 1) (argBest better at_) with
    | true =>
      simp only [if_true]
      refine wpAny_bind ?_
      refine wpAny_updateSeq hobj2 rfl (wpAny_bind (wpAny_letGo ?_))
      rw [mxd_name]
      refine wpAny_pure ⟨plainId_quiet F.plain_max_loop _, ih (at_ + 1) _ u _ (by omega) more (WK.frame _ _ _ hst2 fun b z o e => ?_) (by simp only [argBest, hb, if_true]; exact pu) (Heap.get?_update_self _ hobj2 rfl)
        fun u2 hp2 tk2 pu2 keep2 => ?_⟩
      · exact (Heap.get?_update_other _ _ (fun q : B = b => hB (by rw [q]; exact z))).trans e
      · exact fin u2 hp2 tk2 pu2 fun b o z1 z2 z3 => keep2 b o z1 z2 ((Heap.get?_update_other _ _ (Ne.symm z2)).trans (keep b o z1 z3))
    | false =>
      simp only [Bool.false_eq_true, if_false]
      refine wpAny_bind (wpAny_letGo ?_)
      rw [mxd_name]
      refine wpAny_pure ⟨plainId_quiet F.plain_max_loop _, ih (at_ + 1) _ best ep (by omega) more hst2 (by simp only [argBest, hb, Bool.false_eq_true, if_false]; exact hbest) hobj2 fun u2 hp2 tk2 pu2 keep2 => ?_⟩
      exact fin u2 hp2 tk2 pu2 fun b o z1 z2 z3 => keep2 b o z1 z2 (keep b o z1 z3)
theorem mxd_first (WK : Walks pr wo ar.in1 it fo wr cnt PP SS) (dv : Value) (better : Nat → Nat → Bool) (hgt : CmpOf pr wo ar.in1 .Gt PP better) (B : Addr) (hB : B ∉ fo) {sh : Shared} {ep : Nat} (hst : SS 0 sh.heap)
    (hobj : sh.heap.get? B = some { cls := .type "list", dict := none, data := .seq #[] ep, slots := #[] })
    (none_ : cnt = 0 → ∀ hp tk, (∀ b o, b ∉ wr → sh.heap.get? b = some o → hp.get? b = some o) → RQ (.ok (.ret dv)) { sh with heap := hp, toks := tk })
    (fin : 0 < cnt → ∀ u hp tk, PP (argBest better (cnt - 1)) u → (∀ b o, b ∉ wr → b ≠ B → sh.heap.get? b = some o → hp.get? b = some o) → RQ (.ok (.ret u)) { sh with heap := hp, toks := tk }) :
    codeAny (model pr wo) ar (.builtin "max.loop" ⟨[.ref it, .none, .ref B], kwD dv⟩) RQ sh := by
  have hBw : B ∉ wr := fun z => hB (WK.sub _ z)
  refine codeAny_builtin F.entry_max_loop ?_
  rw [Around.under_plainId F.plain_max_loop _]
  show wpAny _ ar.in1 (seqItems? (.ref B) >>= _) _ _ sh
  refine wpAny_bind (wpAny_seqItems hobj rfl ?_)
  show wpAny _ ar.in1 (tryCatch (pyNext (.ref it)) _ >>= _) _ _ sh
  rcases Nat.eq_zero_or_pos cnt with hz | hn
  · refine wpAny_bind (wpAny_tryCatch (WK.done sh _ _ (hz ▸ hst) fun hp tk keep => ?_))
    show wpAny _ ar.in1 (rule _ >>= fun _ => _) _ _ _
    exact wpAny_bind (wpAny_rule (wpAny_pure (none_ hz hp tk keep)))
  · refine wpAny_bind (wpAny_tryCatch (WK.item 0 sh _ _ hn hst fun u hp tk pu hst2 keep => ?_))
    have hobj2 := keep B _ hBw hobj
    show wpAny _ ar.in1 (updateSeq B (fun _ => #[u, u]) >>= _) _ _ _
    refine wpAny_bind ?_
    refine wpAny_updateSeq hobj2 rfl ?_
    rw [mxd_name]
    refine wpAny_pure ⟨plainId_quiet F.plain_max_loop _, mxd_turns WK dv better hgt B hB _ 0 _ u _ rfl hn (WK.frame _ _ _ hst2 fun b z o e => ?_) pu (Heap.get?_update_self _ hobj2 rfl) fun u2 hp2 tk2 pu2 keep2 => ?_⟩
    · exact (Heap.get?_update_other _ _ (fun q : B = b => hB (by rw [q]; exact z))).trans e
    · exact fin hn u2 hp2 tk2 pu2 fun b o z1 z2 z3 => keep2 b o z1 z2 ((Heap.get?_update_other _ _ (Ne.symm z2)).trans (keep b o z1 z3))
end
section
variable {pr : Program} {wo : World} {ar : Around} {EE : Value → Shared → Prop} {sh : Shared} {l : Addr}
theorem mxd_args (a d : Value) : argsOk "max" ⟨[a], kwD d⟩ := by unfold argsOk; kernel_rfl
theorem mxd_call {its : List Value} {ns : List Int} {dv : Value} {Q : Value → Shared → Prop} (hh : ar.handled = none) (hl : sh.heap.IsList l its.toArray) (hi : IntsAre its ns)
    (h0 : ns = [] → ∀ hp tk, (∀ b o, sh.heap.get? b = some o → hp.get? b = some o) → Q dv { sh with heap := hp, toks := tk })
    (h1 : ∀ hp tk M t, (∀ b o, sh.heap.get? b = some o → hp.get? b = some o) → M ∈ ns → (∀ a, a ∈ ns → a ≤ M) → Q (.int M t) { sh with heap := hp, toks := tk }) :
    wpAny (model pr wo) ar (call (.builtin "max") [.ref l] (kwD dv)) Q EE sh := by
  obtain ⟨xs, e⟩ := hi.allInts.items
  have hn : numsOf (intItems xs).toList = ns := by rw [← e]; exact hi.numsOf
  rw [nums_intItems] at hn
  subst hn
  rw [e] at hl
  refine kmk_tree F.kind_max F.plain_max F.entry_max (mxd_args _ _) ?_
  show wpAny _ ar.in1 (Builtin.Builtins.bindParams "max" ["key", "default"] 0 ⟨[], kwD dv⟩ >>= _) _ _ sh
  refine wpAny_bind (wpAny_of_eq (show Builtin.Builtins.bindParams "max" ["key", "default"] 0 ⟨[], kwD dv⟩ = pure [none, some dv] from rfl) ?_)
  refine wpAny_bind (wpAny_pure ?_)
  refine wpAny_bind (iter_intList hl fun s2 e2 st hfp hlI => ?_)
  subst e2
  refine wpAny_bind (wpAny_newObj_type ?_)
  have WK := Walks.list (prog := pr) (w := wo) (A := ar.in1) hh _ l hlI (intItems xs)
  have hz : (intItems xs).size = xs.size := by simp [intItems]
  rw [mxd_name]
  refine wpAny_pure ⟨plainId_quiet F.plain_max_loop _, mxd_first WK dv _ (CmpOf.ints_gt (numAt xs) (fun _ _ => intItems_at)) _ (fun hm => Nat.lt_irrefl _ (hfp _ hm)) (WK.frame _ _ _ st fun b _ o e => Heap.get?_push_of_some _ e) (Heap.get?_push_size _ rfl) (fun hc hp tk keep => ?_) fun hc u hp tk pu keep => ?_⟩
  · refine h0 (by rw [← List.length_eq_zero_iff, List.length_map, Array.length_toList, ← hz]; exact hc) hp tk (old_kept fun b o z q => keep b o z (Heap.get?_push_of_some _ q))
  · obtain ⟨t, rfl⟩ := intItems_at pu
    obtain ⟨g1, g2⟩ := argBest_gt (numAt xs) ((intItems xs).size - 1)
    rw [hz] at hc g1 g2
    rw [hz]
    refine h1 hp tk _ t (old_kept fun b o z q => keep b o z (Nat.ne_of_lt (Heap.lt_size q)) (Heap.get?_push_of_some _ q)) ?_ fun a ha => ?_
    · rw [numAt_eq]; exact PySem.getD_mem (by rw [List.length_map, Array.length_toList]; omega)
    · obtain ⟨j, hj, rfl⟩ := mem_getD ha
      rw [List.length_map, Array.length_toList] at hj
      rw [← numAt_eq]; exact g2 j (by omega)
end
def rMaxDef (K : PySem.W.Frag) : List V → List V → Hp → VK → Prop := fun vs zs H Q => ∃ (a : Addr) (ns : List Int) (d : V), vs = [V.ref a] ∧ zs = [d] ∧ SqL K H a (ns.map V.int) ∧ (ns = [] → Q d H) ∧ ∀ m, m ∈ ns → (∀ y ∈ ns, y ≤ m) → Q (.int m) H
theorem cr_maxDef {X : Cx} (hc : X.calm = true) : CallRK X (.builtin "max") [Str.ofString "default"] (rMaxDef X.K) := by
  intro pins s σ H xs zs us ws Q I r rz h
  obtain ⟨a, ns, d, rfl, rfl, hs, q0, q1⟩ := h
  obtain ⟨its, rv, hl, _⟩ := I.list hs
  rw [Vals.ref1 r]
  cases rz with
  | cons rd rn =>
    cases rn
    exact mxd_call (I.ok.hd hc) hl.isList rv.ints (fun z hp tk keep => ⟨d, H, I.kept keep, rd, q0 z⟩) fun hp tk m t keep z1 z2 => ⟨.int _, H, I.kept keep, ⟨_, rfl⟩, q1 m z1 z2⟩

/-! ### tuples of numbers: > -/
theorem lexAt_up (e r : Nat → Bool) (z : Bool) : ∀ (k i : Nat), Ob.lexAt e r z (i + 1) k = Ob.lexAt (fun j => e (j + 1)) (fun j => r (j + 1)) z i k
  | 0, _ => rfl
  | k + 1, i => by
    rw [Ob.lexAt_succ, Ob.lexAt_succ, lexAt_up e r z k (i + 1)]
theorem lexAt_gt : ∀ ns ms : List Int, Ob.lexAt (fun j => decide (ns.getD j 0 = ms.getD j 0)) (fun j => decide (ms.getD j 0 < ns.getD j 0)) (decide (ns.length > ms.length)) 0 (min ns.length ms.length) = HT.lexLt ms ns
  | [], [] => rfl
  | [], _ :: _ => rfl
  | _ :: _, [] => rfl
  | x :: xs, y :: ys => by
    rw [show min (x :: xs).length (y :: ys).length = min xs.length ys.length + 1 by simp only [List.length_cons]; omega, Ob.lexAt_succ, lexAt_up]
    rw [HT.lexLt_cons, ← lexAt_gt xs ys]
    simp only [List.getD_cons_zero, List.getD_cons_succ, List.length_cons]
    by_cases h : x = y
    · subst h
      simp
    · rw [decide_eq_false h, if_neg (by simp), if_neg (fun z => h z.symm)]
def rGtT (K : PySem.W.Frag) : R2 := fun x y H Q => ∃ (a b : Addr) (ns ms : List Int), x = .ref a ∧ y = .ref b ∧ SqT K H a (ns.map V.int) ∧ SqT K H b (ms.map V.int) ∧ Q (.bl (HT.lexLt ms ns)) H
theorem op_gtT {X : Cx} (hu : X.A.units < cLine) : OpR X (compareOp .Gt) (rGtT X.K) := by
  intro pins s σ H x y v u Q I rx ry h
  obtain ⟨a, b, ns, ms, rfl, rfl, ha, hb, q⟩ := h
  cases rx
  cases ry
  obtain ⟨ps, r1, p1, _⟩ := I.tuple ha
  obtain ⟨qs, r2, p2, _⟩ := I.tuple hb
  have i1 : IntsAre ps ns := Vals.ints r1
  have i2 : IntsAre qs ms := Vals.ints r2
  have e1 : ps.toArray.size = ns.length := by rw [List.size_toArray]; exact i1.length
  have e2 : qs.toArray.size = ms.length := by rw [List.size_toArray]; exact i2.length
  have g1 : ∀ j (z : j < ps.toArray.size), ∃ t, ps.toArray[j] = .int (ns.getD j 0) t := fun j z => PyProof.Rows.IntsAre.int_at i1 _ _ (by simp at z; simp [z])
  have g2 : ∀ j (z : j < qs.toArray.size), ∃ t, qs.toArray[j] = .int (ms.getD j 0) t := fun j z => PyProof.Rows.IntsAre.int_at i2 _ _ (by simp at z; simp [z])
  have R := Ob.RcOp.tuples_gt (A := X.A) (s := s) (e := fun j => decide (ns.getD j 0 = ms.getD j 0)) (r := fun j => decide (ms.getD j 0 < ns.getD j 0)) p1 p2 hu (fun j z1 z2 => by
    obtain ⟨t, et⟩ := g1 j z1
    obtain ⟨t', et'⟩ := g2 j z2
    rw [et, et']
    have k : (ns.getD j 0 == ms.getD j 0) = decide (ns.getD j 0 = ms.getD j 0) := rfl
    rw [← k]
    exact SeqAt.EqAt.int_int _ _ _ _) (fun j z1 z2 _ => by
    obtain ⟨t, et⟩ := g1 j z1
    obtain ⟨t', et'⟩ := g2 j z2
    rw [et, et']
    exact Ob.RcOp.gt_int _ _ _ _)
  rw [e1, e2, lexAt_gt] at R
  exact R X.prog X.w X.xe (EP X pins σ Q) ⟨.bl _, H, I, rfl, q⟩

/-! ### a written dict: D.get(k, d) -/
section
variable {X : Cx} {o e : Expr} {es : List Expr} {to : TE} {t : TA} {name : Str} {apos cpos : Pos} {T id : String} {r : V → List V → Hp → VK → Prop}
def tBMK (K : PySem.W.Frag) (T : String) (r : V → List V → Hp → VK → Prop) (to : TE) (t : TA) : TE :=
  fun σ H Q => to σ H fun x H1 => (∃ a ob, x = .ref a ∧ K.lookup a = some ob ∧ ob.cls = .type T ∧ ob.dict = none) ∧ t σ H1 fun xs H2 => r x xs H2 Q
theorem pe_bmK (pa : PlainAttrs T) (slot : Slot T name id) (hty : typeOf (.builtin id) = pure (.type "method_descriptor")) (hm : MtR X id r) (ho : PE X o to) (ha : PA X (e :: es) t)
    (hb : attributeBase o name X.env (eval o X.env) = eval o X.env)
    (hf : ((backTo cpos (starEach (e :: es) X.env)).all (fun x => !x.1) && (backToKw cpos (keywordEach [] X.env)).all (fun x => x.1.isSome)
      && decide ((e :: es).length + ([] : List Keyword).length + (if ([] : List Keyword).isEmpty then 0 else 1) < 30)) = true)
    (hl : (apos.endLine == cpos.line) = true) (hs : starEach (e :: es) X.env = (false, eval e X.env) :: starEach es X.env) (hp : (backTo cpos (starEach es X.env)).any (·.1) = false) :
    PE X (.Call (.Attribute o name apos) (e :: es) [] cpos) (tBMK X.K T r to t) := by
  refine ⟨fun pins s σ H Q I h => ?_⟩
  refine wpAny_Call_method_late hb hf hl rfl (thn (ho.run pins s σ H _ I h) fun v s1 ⟨x, H1, I1, r1, ⟨a, ob, ex, e1, e2, e3⟩, q1⟩ => ?_)
  subst ex
  have rv := r1
  cases r1
  have at1 := I1.kIn a ob e1
  refine ⟨T, id, pa, slot, hty, ⟨ob, at1, e2⟩, fun c ec => ?_, ?_⟩
  · cases ec
    exact ⟨ob, at1, e3⟩
  have hA := ha.run cpos pins s1 σ H1 _ I1 q1
  rw [hs] at hA ⊢
  refine Calls.callWith_builtin (by show (false || (backTo cpos (starEach es X.env)).any (·.1)) = false; rw [hp] <;> rfl) (Calls.evalArgs_plain ?_)
  exact thn hA fun us s2 ⟨vs, H2, I2, r2, q2⟩ => hm pins s2 σ H2 _ vs _ us Q I2 rv r2 q2
def rKGet (K : PySem.W.Frag) (w : World) : V → List V → Hp → VK → Prop := fun x xs H Q => ∃ a es n k d r, x = .ref a ∧ xs = [.str k, d] ∧ KDict K w a es n ∧ PySem.W.nsIn K a k = some r ∧
  (∀ u, r = some u → ∃ v, RelV v u ∧ Q v H) ∧ (r = none → Q d H)
theorem mt_kget : MtR X "dict.get" (rKGet X.K X.w) := by
  intro pins s σ H x xs v us Q I rx rs h
  obtain ⟨a, es, n, k, d, r, rfl, rfl, D, e, q1, q2⟩ := h
  cases rx
  cases rs with
  | cons r1 rs1 =>
    obtain ⟨t, rfl⟩ := r1
    cases rs1 with
    | @cons _ u _ _ r2 r3 =>
      cases r3
      have hm := PySem.W.mapOf_K (prog := X.prog) (w := X.w) I.kIn D.at_ D.lit
      refine call_meetsIn PySem.F.slot_dict_get hm.typeIs PySem.F.entry_dict_get (PySem.F.args_dict_get_3 _ _ _) (meets_dict_get_default (strKind X.prog X.w) a (strKind_is X.prog X.w k t) D.low u) ⟨_, hm, ?_⟩
      rw [PySem.W.find_K D.at_ e]
      cases r with
      | none => exact ⟨d, H, I.tok _, r2, q2 rfl⟩
      | some w' =>
        obtain ⟨v', rv, q⟩ := q1 w' rfl
        exact ⟨v', H, I.tok _, rv, q⟩
end
end MP

set_option Elab.async false
set_option linter.all false
set_option maxRecDepth 100000
set_option maxHeartbeats 4000000
set_option autoImplicit false
/-! MP1: an own exception over ValueError whose __init__ says super().__init__(..): its __init__ as a def of the hand layer. -/
namespace MP
open PySem PySem.Spec L2
open PyProof.Rows hiding St
theorem look_uniq {y : Str} {u : Value} : ∀ {l : List (Str × Value)}, (∀ v, (y, v) ∈ l → v = u) → (y, u) ∈ l → l.lookup y = some u
  | [], _, h => by cases h
  | (z, v) :: r, h1, h2 => by
    rw [List.lookup_cons]
    by_cases c : y = z
    · subst c
      simp only [beq_self_eq_true, if_true]
      rw [h1 v List.mem_cons_self]
    · have c' : (y == z) = false := by simpa using c
      rw [c']
      refine look_uniq (fun v' hv => h1 v' (List.mem_cons_of_mem _ hv)) ?_
      rcases List.mem_cons.mp h2 with e | e
      · cases e; exact absurd rfl c
      · exact e
theorem zip_look {ps : List Str} {us : List Value} {i : Nat} {y : Str} {u : Value} (nd : ps.Nodup) (h1 : ps[i]? = some y) (h2 : us[i]? = some u) : (ps.zip us).reverse.lookup y = some u := by
  refine look_uniq (fun v hv => ?_) ?_
  · rw [List.mem_reverse] at hv
    obtain ⟨j, hj⟩ := List.mem_iff_getElem?.mp hv
    obtain ⟨e1, e2⟩ := List.getElem?_zip_eq_some.mp hj
    have : i = j := L2.nodup_ix nd h1 e1
    subst this
    rw [h2] at e2
    exact (Option.some.inj e2).symm
  · rw [List.mem_reverse]
    exact List.mem_iff_getElem?.mpr ⟨i, List.getElem?_zip_eq_some.mpr ⟨h1, h2⟩⟩
abbrev clsN : Str := "__class__"
/-- what is known of such an __init__: C the class, cda its code's record, cc the cell of __class__ -/
structure SupF (P : Program) (K : PySem.W.Frag) (mg : Str → Option Value) (C cda cc : Addr) (scope : Scope) (ps : List Str) : Prop where
  code : ∃ ccl cdd vs ccs file tf, K.lookup cda = some ⟨ccl, cdd, .fields vs, ccs⟩ ∧ vs[2]? = some (.str file tf) ∧ ((P.main.file : Str) == file) = true
  cell : ∃ cl cld csl, K.lookup cc = some ⟨cl, cld, .cell (some (.ref C)), csl⟩
  top : (P.main.scope.names.lookup ("super" : Str)).isSome = false
  stat : PySem.W.nsIn K cStatics "thirdparty.any" = some none
  sup : PySem.W.ks_superIn K C C "__init__" = some (some (.builtin "ValueError.__init__"))
  sub : PySem.W.subIn K (.ref C) (.type "ValueError") = some true
  mro : PySem.W.mroIn K C (.ref C) = some true
  mgs : mg "super" = none
  kind : scope.kind = .function
  par : ∀ x ∈ ps, scope.names.lookup x = some .local
  ndp : ps.Nodup
  fre : ∀ y, scope.names.lookup y = some .free → y = clsN
  noc : ∀ y ∈ scope.names, y.2 ≠ .cell
  ks : scope.names.lookup ("super" : Str) = some .globalImplicit
  kc : scope.names.lookup clsN = some .free
/-- its context -/
def cxS (CX : CXT) (P : Program) (w : World) (K : PySem.W.Frag) (mg : Str → Option Value) (base : Heap) (N : List Str) (qual : Str) (scope : Scope) (f cda cc : Addr) (A : Around) (outer : List Env) (s : Shared) (H : Hp) (E : XK) : Cx where
  prog := P
  w := w
  K := K
  mg := mg
  base := base
  A := A.deeper (PySem.W.ksEnv qual scope s.heap.objs.size f (.ref cda) cc)
  N := N
  s_0 := s
  H_0 := H
  env := PySem.W.ksEnv qual scope s.heap.objs.size f (.ref cda) cc
  outer := outer
  stack := PySem.W.ksEnv qual scope s.heap.objs.size f (.ref cda) cc :: outer
  ex := []
  calm := true
  fn := fun x => !(x == clsN)
  pn := []
  xe := fun e s' => wpAny (model P w) (A.deeper (PySem.W.ksEnv qual scope s.heap.objs.size f (.ref cda) cc)) (leaving (PySem.W.ksEnv qual scope s.heap.objs.size f (.ref cda) cc) e) (fun _ s'' => CX outer H s E e s'') (fun e' s'' => CX outer H s E e' s'') s'
theorem one_look {x : Str} {c cc : Addr} (h : ([(clsN, cc)] : List (Str × Addr)).lookup x = some c) : x = clsN ∧ c = cc := by
  rw [List.lookup_cons] at h
  split at h
  · rename_i q
    cases h
    exact ⟨eq_of_beq q, rfl⟩
  · cases h
section
variable {CX : CXT} {P : Program} {w : World} {K : PySem.W.Frag} {mg : Str → Option Value} {base : Heap} {ps : List Str} {qual : Str} {scope : Scope} {f C cda cc : Addr} {A : Around} {outer : List Env} {s : Shared} {H : Hp} {E : XK} {us : List Value} {vs : List V}
theorem inv_startS (S : SupF P K mg C cda cc scope ps) (hd : A.handled = none) (e0 : Env0 P w K mg base A outer s H) (hl : vs.length = ps.length) (r : Vals vs us) {h1 : Heap} {tk : Nat}
    (hns : h1.Ns s.heap.objs.size (fun x => (ps.zip us).reverse.lookup x)) (hk : ∀ b o, s.heap.get? b = some o → h1.get? b = some o) :
    Inv (cxS CX P w K mg base ps qual scope f cda cc A outer s H E) [] (L2.start ps vs) H { s with heap := h1, toks := tk } := by
  obtain ⟨cl, cld, csl, hcell⟩ := S.cell
  have hcb := e0.bs _ _ (e0.mod.kin _ _ hcell)
  have noA : ∀ b : Addr, b ∉ (cxS CX P w K mg base ps qual scope f cda cc A outer s H E).ex := fun b z => absurd (show b ∈ ([] : List Addr) from z) (by simp)
  refine ⟨⟨e0.mod, S.kind, rfl, rfl, Nat.le_refl _, fun y z c h1 h2 => ?_, fun y hy => ?_, fun y c hf h => ?_, fun _ => hd, Around.frames_deeper e0.frames, .inr ⟨rfl, rfl⟩, fun b z => absurd z (noA b), e0.bs, e0.bsz, fun b _ _ => noA b, fun b z => absurd z (noA b), e0.funs, e0.frf⟩,
    rfl, e0.bare, Un.kept hk, ⟨_, hns, fun i y v h1 h2 h3 => ?_⟩, fun y c h => ?_, e0.hok.fresh (Nat.le_refl _), fun y c h => ?_, fun p hp => absurd (show p ∈ ([] : List (Addr × Obj)) from hp) (by simp), e0.hok.kept hk, ?_⟩
  · rw [(one_look h1).1, (one_look h2).1]
  · have hy : scope.names.lookup y = some .cell ∨ scope.names.lookup y = some .free := hy
    rcases hy with hy | hy
    · exact absurd rfl (S.noc _ (PySem.mem_of_lookup hy))
    · rw [S.fre y hy]
      refine ⟨cc, ?_⟩
      show ([(clsN, cc)] : List (Str × Addr)).lookup clsN = some cc
      rw [List.lookup_cons, beq_self_eq_true]
  · rw [(one_look h).1] at hf
    have hf' : (!(clsN == clsN)) = true := hf
    simp at hf'
  · have hi : i < vs.length := by
      unfold L2.start at h2
      by_cases hi : i < vs.length
      · exact hi
      · rw [List.getElem?_append_right (by simpa using hi)] at h2
        rw [List.getElem?_replicate] at h2
        split at h2 <;> cases h2
    have ha : vs[i]? = some v := by
      unfold L2.start at h2
      rw [List.getElem?_append_left (by simpa using hi), List.getElem?_map] at h2
      cases e : vs[i]? with
      | none => rw [e] at h2; cases h2
      | some a => rw [e] at h2; cases h2; rfl
    obtain ⟨u, hu, rv⟩ := r.get ha
    exact ⟨u, rv, .inl ⟨S.par y (List.mem_of_getElem? h1), zip_look S.ndp h1 hu⟩⟩
  · rw [(one_look h).2]
    exact ⟨_, _, hk _ _ hcb.1, rfl⟩
  · rw [(one_look h).2]
    exact hcb.2
  · unfold L2.start
    show _ = ps.length
    rw [List.length_append, List.length_map, List.length_replicate]
    omega
/-- the built-in __init__ bound to the instance, called -/
theorem call_bound {A : Around} {Ex : Value → Shared → Prop} {prog : Program} {hp : Heap} {g : Array GenState} {d : Drawn} {t : Nat} {os : OsState} {nm q : Str} {C N : Addr} {bs bm : List Value} {hdct : Bool} {sn : List Str} {sub : List Value} {ab : Bool} {col : Option Bool} {dd : Option Addr}
    {k0 k1 k2 k3 k5 : Option Value} {u e t0 : Addr} {rest : List Value} {Q : Value → Shared → Prop}
    (hC : hp.get? C = some (excClassObj nm q C N bs bm hdct sn sub ab col dd k0 k1 k2 k3 k5 "ValueError.__new__")) (he : hp.get? e = some (HandSPX.excO C t0)) (hu : hp.get? u = some (PySem.W.kxs_mw "ValueError.__init__" e)) (hrest : rest.length ≤ sizeLine)
    (hq : ∀ h' t1, (∀ b o, b ≠ e → hp.get? b = some o → h'.get? b = some o) → h'.get? e = some (HandSPX.excO C t1) → Q .none ⟨h', g, d, t, os⟩) :
    wpAny (model prog w) A (call (.ref u) rest) Q Ex ⟨hp, g, d, t, os⟩ := by
  refine wpAny_call (codeAny_of_tree ?_)
  show wpAny _ A.in1 (callAny (.ref u) ⟨rest, []⟩) _ _ _
  simp only [callAny]
  refine wpAny_bind (wpAny_load hu ?_)
  simp only [PySem.W.kxs_mw, show (Value.type "method-wrapper" == Value.type "method" || Value.type "method-wrapper" == Value.type "builtin_function_or_method" || Value.type "method-wrapper" == Value.type "method-wrapper") = true by decide, if_true]
  refine PySem.W.KFB.if_so (by decide) ?_
  refine wpAny_bind (PySem.W.check_bound_init F.excBase_ValueError.toExcCallFacts hC he rfl ?_)
  refine wpAny_bind (wpAny_pure (wpAny_pure ?_))
  refine ⟨plainId_quiet F.excBase_ValueError.init.plain _, codeAny_builtin F.excBase_ValueError.initEntry ?_⟩
  rw [Around.under_plainId F.excBase_ValueError.init.plain _]
  refine PySem.W.exc_init_tree (cls := .ref C) (t0 := t0) (dv := none) (c2 := .none) (c3 := .none) (b4 := .bool false) he hrest fun h' k e' _ => hq h' _ k e'
theorem super_ok {Xc : Cx} (hXc : Xc = cxS CX P w K mg base ps qual scope f cda cc A outer s H E) (S : SupF P K mg C cda cc scope ps) (T : OexC K C) {fd : FuncData} {oc : Value} {od : Option Addr} {osl : Array (Option Value)} {ar : Arg}
    (hf : K.lookup f = some ⟨oc, od, .func fd, osl⟩) (hfp : (fd.params.posonlyargs ++ fd.params.args).head? = some ar) (hps : ps[0]? = some ar.arg)
    {σ : L2.St} {H1 : Hp} {s1 : Shared} {a : Addr} (I : Inv Xc [] σ H1 s1) (h0 : σ[0]? = some (some (.ref a))) (ea : H1 a = some (exo a C none))
    {body : List Stmt} {y : Expr} {ys : List Expr} {ta : TA} (ha : PA Xc (y :: ys) ta) (hta : ta σ H1 fun vs H2 => vs.length ≤ 1000 ∧ H2 = H1)
    (hs : starEach (y :: ys) Xc.env = (false, eval y Xc.env) :: starEach ys Xc.env) {p0 p1 ap pos pos' : Pos} (hpl : (backTo pos (starEach ys Xc.env)).any (·.1) = false)
    {pl : Sem Bool} (he : eval (.Call (.Attribute (.Call (.Name "super" p0) [] [] p1) "__init__" ap) (y :: ys) [] pos) Xc.env = (do
      let ov ← attributeBase (.Call (.Name "super" p0) [] [] p1) "__init__" Xc.env (eval (.Call (.Name "super" p0) [] [] p1) Xc.env)
      standAt ap.atName
      let (f, first) ← holding [ov] (getMethod ov "__init__" pl)
      callWith pos f first (backTo pos (starEach (y :: ys) Xc.env)) []))
    {R : Flow → Shared → Prop} {Ex : Value → Shared → Prop} (hxe : ∀ e s, Xc.xe e s → Ex e s) (hR : ∀ s2, Inv Xc [] σ H1 s2 → R .next s2) :
    PySem.wpAt (model P w) Xc.A (.func body Xc.env) (exec (.Expr (.Call (.Attribute (.Call (.Name "super" p0) [] [] p1) "__init__" ap) (y :: ys) [] pos) pos') Xc.env) R Ex s1 := by
  subst hXc
  obtain ⟨ccl, cdd, vs0, ccs, file, tf, hcode, hvs2, hfile⟩ := S.code
  obtain ⟨cl, cld, csl, hcell⟩ := S.cell
  obtain ⟨nm, q, N, bs, bm, sn, sub, ab, col, dd, k0, k1, k2, k3, k5, hC, hbm⟩ := T.cls
  have KI := I.kIn
  have hcl : PySem.W.clsIn K C = some { name := nm, bases := bs, mro := .ref C :: bm, ns := N, qualname := q, hasDict := true, slotNames := sn, subclasses := sub, abstract := ab, collection := col, hasDel := false } := by unfold PySem.W.clsIn; rw [hC] <;> rfl
  obtain ⟨t0, ho⟩ := exo_at I.hok ea
  obtain ⟨mb, b1, b2⟩ := I.mod.blt
  obtain ⟨m, hn, hlk⟩ := id I.loc
  have hself : m ar.arg = some (.ref a) := by
    obtain ⟨u, ru, l⟩ := hlk 0 ar.arg (.ref a) hps h0 (.inl (S.par _ (List.mem_of_getElem? hps)))
    cases ru
    rcases l with ⟨_, l⟩ | ⟨l, _⟩
    · exact l
    · have k : scope.names.lookup ar.arg = some .local := S.par _ (List.mem_of_getElem? hps)
      rcases l with l | l
      · have l' : scope.names.lookup ar.arg = some .cell := l
        rw [k] at l'; cases l'
      · have l' : scope.names.lookup ar.arg = some .free := l
        rw [k] at l'; cases l'
  have hCb := I.bs C _ (I.mod.kin _ _ hC)
  have hxC : a ≠ C := fun z => by rw [← z] at hCb; rw [ea] at hCb; cases hCb.2
  have hint : interactive (cxS CX P w K mg base ps qual scope f cda cc A outer s H E).env = false := by
    unfold interactive
    rw [show (cxS CX P w K mg base ps qual scope f cda cc A outer s H E).env.scope.kind = .function from S.kind]
    rfl
  obtain ⟨hp, g, d, tk, os⟩ := s1
  refine ks_wpAt_Expr_any (ks_wpAt_MethodCall (pl := pl) ?_ he) hint (by rfl)
  refine ks_wpAt_super_base S.ks S.kc (by decide) rfl (KI _ _ hf) rfl hfp rfl (KI _ _ hcode) rfl hvs2 hfile S.top ?_
  refine PySem.W.ks_loadName_global S.kind S.ks (PySem.Calls.loadGlobal_builtin (I.mod.glob.keeps I.bk) S.mgs (b1.keeps I.bk) ((b2 "super" (by decide)).trans (by kernel_rfl)) ⟨rfl, ?_⟩)
  refine wpAny_loadName_free S.kind S.kc (by show ([(clsN, cc)] : List (Str × Addr)).lookup clsN = some cc; rw [List.lookup_cons, beq_self_eq_true]) ⟨_, KI _ _ hcell, rfl⟩ ?_
  refine wpAny_loadName_local S.kind (S.par _ (List.mem_of_getElem? hps)) hn hself ?_
  refine ks_wpAny_isType_cls (KI _ _ hC) rfl ⟨rfl, ?_⟩
  refine ks_wpAny_call_super (KI _ _ hC) rfl ho rfl (fun _ z => by cases z) (PySem.W.looks_mroIn KI S.mro) (fun h' e' k => ?_)
  have I2 := I.kept (t' := tk) k
  have KI2 := I2.kIn
  have hno : PySem.W.Looks (model P w) h' (opaqueClassAbove (.ref C)) none := PySem.W.looks_opaque KI2 S.stat
  have hro : PySem.W.Looks (model P w) h' (mroOf (.ref C)) (Value.ref C :: bm) := fun A Q E s k q => wpAny_bind ((PySem.W.looks_clsIn KI2 hcl) A _ E s k (wpAny_pure q))
  have hal : PySem.W.alongIn K "__init__" (((Value.ref C :: bm).dropWhile (· != .ref C)).drop 1) = some (some (.builtin "ValueError.__init__")) := by
    have z := S.sup
    unfold PySem.W.ks_superIn at z
    rw [hcl] at z
    exact z
  obtain ⟨t1, ho2⟩ := exo_at I2.hok ea
  have II : PySem.W.InstAt h' a { cls := .ref C, dict := none, data := .fields #[.ref t1, .none, .none, .none, .bool false, .none] } C none := ⟨ho2, rfl, rfl, trivial⟩
  have hI : PySem.W.Looks (model P w) h' (isInstance (.ref a) (.type "ValueError")) true := II.type.andThen (PySem.W.looks_subIn KI2 S.sub)
  refine PySem.W.kxs_getMethod PySem.W.kxs_ValueError e' hno hro rfl KI2 hal hI hxC (by decide) ?_
  have k3 : ∀ b o, h'.get? b = some o → (h'.push (PySem.W.kxs_mw "ValueError.__init__" a)).get? b = some o := fun b o z => Heap.get?_push_of_some _ z
  have I3 := I2.kept (t' := tk + 1) k3
  have hmw : (h'.push (PySem.W.kxs_mw "ValueError.__init__" a)).get? h'.objs.size = some (PySem.W.kxs_mw "ValueError.__init__" a) := Heap.get?_push_at rfl rfl
  have I4 : Inv (cxS CX P w K mg base ps qual scope f cda cc A outer s H E) [(h'.objs.size, PySem.W.kxs_mw "ValueError.__init__" a)] σ H1 ⟨h'.push (PySem.W.kxs_mw "ValueError.__init__" a), g, d, tk + 1, os⟩ := I3.pins_of fun p hp => by
    rw [List.mem_singleton.mp hp]
    refine ⟨hmw, I2.hok.fresh (Nat.le_refl _), ?_, I2.nofs (Nat.le_refl _), fun v z => by cases z⟩
    exact fun z => absurd (Nat.lt_of_lt_of_le I2.lt (Nat.le_of_eq z)) (Nat.lt_irrefl _)
  have hA := ha.run pos _ _ σ H1 _ I4 hta
  rw [hs] at hA ⊢
  refine PySem.W.kxs_callWith (i := "ValueError.__init__") (x := a) (by show (false || (backTo pos (starEach ys (cxS CX P w K mg base ps qual scope f cda cc A outer s H E).env)).any (·.1)) = false; rw [hpl]; rfl) (PySem.Calls.evalArgs_plain ?_)
  refine wpAny_mono hA (fun us s5 ⟨vs, H5, I5, rv, hlen, eH⟩ => ?_) hxe
  subst eH
  have hp5 := (I5.pin _ (List.mem_append_right _ List.mem_cons_self)).1
  refine ⟨hp5, ?_⟩
  obtain ⟨t2, ho5⟩ := exo_at I5.hok ea
  obtain ⟨hp6, g6, d6, tk6, os6⟩ := s5
  refine call_bound (I5.kIn _ _ hC) ho5 hp5 (by show us.length ≤ sizeLine; rw [← rv.length, sizeLine_eq]; omega) fun h7 t7 k7 e7 => ?_
  have J := I5.write (t' := tk6) (x := a) (e := a) (o := exo a C none) (by rw [ea]; exact True.intro) (.inl rfl) k7 ⟨_, e7⟩ (exo_ok e7)
  have eu : upd H5 a (exo a C none) = H5 := by
    funext b
    by_cases hb : b = a
    · rw [hb, upd_same, ea]
    · rw [upd_ne hb]
  rw [eu] at J
  exact hR _ (J.pins_of fun p hp => absurd hp (by simp))
/-- such an __init__ keeps its promise: its first statement is the call, the rest is walked -/
theorem fn_ofS {k : Nat} {name : Str} {params : Arguments} {y : Expr} {ys : List Expr} {rest : List Stmt} {dV kV doc pm ct oc : Value} {an od : Option Addr} {osl : Array (Option Value)} {ar : Arg} {sp : Sp} {p0 p1 ap pos pos' : Pos}
    (lk : K.lookup f = some ⟨oc, od, .func (PySem.W.ksFn name qual params (.Expr (.Call (.Attribute (.Call (.Name "super" p0) [] [] p1) "__init__" ap) (y :: ys) [] pos) pos' :: rest) scope dV kV doc pm an (.ref cda) ct cc), osl⟩)
    (hcd : PySem.W.codeIn K (.ref cda) qual = true) (S : SupF P K mg C cda cc scope ps) (T : OexC K C) (hco : scope.isCoroutine = false) (hgen : scope.isGenerator = false)
    (hfp : (params.posonlyargs ++ params.args).head? = some ar) (hps : ps[0]? = some ar.arg) (len : ∀ vs H Q E, sp vs H Q E → vs.length = ps.length)
    (hbody : ∀ (A : Around) (outer : List Env) (s : Shared) (H : Hp) (vs : List V) (Q : VK) (E : XK), Room k (A.deeper (PySem.W.ksEnv qual scope s.heap.objs.size f (.ref cda) cc)) → sp vs H Q E →
      ∃ (a : Addr) (ta : TA) (t : TS) (pl : Sem Bool), vs[0]? = some (.ref a) ∧ H a = some (exo a C none) ∧ PA (cxS CX P w K mg base ps qual scope f cda cc A outer s H E) (y :: ys) ta ∧ (ta (L2.start ps vs) H fun vs H2 => vs.length ≤ 1000 ∧ H2 = H) ∧
        starEach (y :: ys) (cxS CX P w K mg base ps qual scope f cda cc A outer s H E).env = (false, eval y (cxS CX P w K mg base ps qual scope f cda cc A outer s H E).env) :: starEach ys (cxS CX P w K mg base ps qual scope f cda cc A outer s H E).env ∧
        (backTo pos (starEach ys (cxS CX P w K mg base ps qual scope f cda cc A outer s H E).env)).any (·.1) = false ∧
        eval (.Call (.Attribute (.Call (.Name "super" p0) [] [] p1) "__init__" ap) (y :: ys) [] pos) (cxS CX P w K mg base ps qual scope f cda cc A outer s H E).env = (do
          let ov ← attributeBase (.Call (.Name "super" p0) [] [] p1) "__init__" (cxS CX P w K mg base ps qual scope f cda cc A outer s H E).env (eval (.Call (.Name "super" p0) [] [] p1) (cxS CX P w K mg base ps qual scope f cda cc A outer s H E).env)
          standAt ap.atName
          let (fv, first) ← holding [ov] (getMethod ov "__init__" pl)
          callWith pos fv first (backTo pos (starEach (y :: ys) (cxS CX P w K mg base ps qual scope f cda cc A outer s H E).env)) []) ∧
        PSs (cxS CX P w K mg base ps qual scope f cda cc A outer s H E) rest t ∧ t { nx := fun _ H' => Q .non H', rt := Q } (L2.start ps vs) H) :
    FnOk P w K mg base CX (k + 1) f (PySem.W.ksFn name qual params (.Expr (.Call (.Attribute (.Call (.Name "super" p0) [] [] p1) "__init__" ap) (y :: ys) [] pos) pos' :: rest) scope dV kV doc pm an (.ref cda) ct cc) ps sp := by
  refine ⟨len, fun A outer s H args us vs Q E hr e0 hb r hsp => ?_⟩
  have hl := len _ _ _ _ hsp
  have KX : K.In s.heap := e0.mod.kin.keeps fun b o e => (e0.bs b o e).1
  have lim : s.heap.NoLimit := e0.mod.nolimit.keeps fun b o e => (e0.bs b o e).1
  obtain ⟨a, ta, t, pl, h0, ea, ha, hta, hs, hpl, he, ht, hq⟩ := hbody A outer s H vs Q E (hr.deeper _) hsp
  refine ks_codeAny_call_defAt hr.depth (KX _ _ lk) rfl lim (PySem.W.codeRec_of KX hcd) rfl hb S.noc (fun x hx => S.par _ (List.of_mem_zip hx).1) (fun h₁ hns hk => ?_) hco hgen S.kind
  have I := inv_startS (CX := CX) (qual := qual) (f := f) (E := E) S hr.hd e0 hl r (tk := s.toks + (ps.zip us).length) hns hk
  have h0' : (L2.start ps vs)[0]? = some (some (.ref a)) := by
    unfold L2.start
    cases vs with
    | nil => cases h0
    | cons v vs => cases h0; rfl
  refine ks_wpAt_execs_cons (super_ok (E := E) (CX := CX) (w := w) rfl S T lk hfp hps I h0' ea ha hta hs hpl he (fun e s z => z) fun s2 I2 => ?_)
  refine wpAt_of_wpAny (wpAny_mono (ht.run [] s2 (L2.start ps vs) H _ I2 hq) (fun fl s' hs => ?_) fun e s' hs => hs)
  have fin : ∀ {σ' : L2.St} {H' : Hp} {v : V} {u : Value}, Inv (cxS CX P w K mg base ps qual scope f cda cc A outer s H E) [] σ' H' s' → RelV v u → Q v H' → CE outer P w H s Q u s' :=
    fun {σ' H' v u} J rv q => ⟨v, H', J.os, J.bare, J.base, J.hok, rv, q⟩
  cases fl with
  | ret u =>
    obtain ⟨v, σ', H', J, rv, q⟩ := hs
    exact fin J rv q
  | next =>
    obtain ⟨σ', H', J, q⟩ := hs
    exact fin (v := V.non) (u := Value.none) J rfl q
  | brk =>
    obtain ⟨_, _, _, q⟩ := hs
    exact False.elim q
  | cont =>
    obtain ⟨_, _, _, q⟩ := hs
    exact False.elim q
theorem mcallA {o : Expr} {m : Str} {apos pos : Pos} {args : List Expr} {env : Env} (hf : methodCallForm (args.length + ([] : List Keyword).length) (backTo pos (starEach args env)) (backToKw pos (keywordEach [] env)) = true) (hl : (apos.endLine == pos.line) = true) :
    eval (.Call (.Attribute o m apos) args [] pos) env = (do
      let ov ← attributeBase o m env (eval o env)
      standAt apos.atName
      let (fv, first) ← holding [ov] (getMethod ov m (plainOf o env))
      callWith pos fv first (backTo pos (starEach args env)) []) := by
  rw [arm_eval_Call]
  have e : (fun ov => methodCall o m apos pos env ov (args.length + ([] : List Keyword).length) (backTo pos (starEach args env)) (backToKw pos (keywordEach [] env))) = fun ov => (do
      let (fv, first) ← holding [ov] (getMethod ov m (plainOf o env))
      callWith pos fv first (backTo pos (starEach args env)) (backToKw pos (keywordEach [] env))) := funext fun ov => mcall_line hf hl
  show (do
      let ov ← attributeBase o m env (eval o env)
      standAt apos.atName
      (fun ov => methodCall o m apos pos env ov (args.length + ([] : List Keyword).length) (backTo pos (starEach args env)) (backToKw pos (keywordEach [] env))) ov) = _
  rw [e]
  rfl
/-- what such an __init__ does: the fields are laid -/
def spX (C : Addr) (fl : List Str) : Sp := fun vs H Q _ => ∃ (a : Addr) (ws : List V), vs = .ref a :: ws ∧ ws.length = fl.length ∧ H a = some (exo a C none) ∧
  ∀ d, H d = none → d ≠ a → Q .non (upd (upd H a (exo a C (some d))) d (exd d (fl.zip ws).reverse))
theorem upd_lay {H : Hp} {a d : Addr} {o1 o2 o3 : HO} (h : d ≠ a) : upd (upd (upd H d o1) a o2) d o3 = upd (upd H a o2) d o3 := by
  funext b
  by_cases h1 : b = d
  · rw [h1, upd_same, upd_same]
  · rw [upd_ne h1, upd_ne h1]
    by_cases h2 : b = a
    · rw [h2, upd_same, upd_same]
    · rw [upd_ne h2, upd_ne h2, upd_ne h1]
theorem upd_lay1 {H : Hp} {a d : Addr} {o1 o2 : HO} (h : d ≠ a) : upd (upd H d o1) a o2 = upd (upd H a o2) d o1 := by
  funext b
  by_cases h1 : b = d
  · rw [h1, upd_same, upd_ne h, upd_same]
  · rw [upd_ne h1]
    by_cases h2 : b = a
    · rw [h2, upd_same, upd_same]
    · rw [upd_ne h2, upd_ne h2, upd_ne h1]
theorem vis_of {k : Nat} {x : Str} {sc : Scope} (h : sc.names.lookup x = some .local) : Vis sc x := .inl h
theorem init2_ok {k : Nat} {name : Str} {params : Arguments} {dV kV doc pm ct oc : Value} {an od : Option Addr} {osl : Array (Option Value)} {ar : Arg} {p0 p1 ap pos pos' q1 q2 r1 r2 r3 r4 t1 t2 t3 t4 : Pos}
    (lk : K.lookup f = some ⟨oc, od, .func (PySem.W.ksFn name qual params [.Expr (.Call (.Attribute (.Call (.Name "super" p0) [] [] p1) "__init__" ap) [.Name "word" q1, .Name "at" q2] [] pos) pos', .Assign [.Attribute (.Name "self" r1) "word" r2] (.Name "word" r3) r4,
      .Assign [.Attribute (.Name "self" t1) "at" t2] (.Name "at" t3) t4] scope dV kV doc pm an (.ref cda) ct cc), osl⟩)
    (hcd : PySem.W.codeIn K (.ref cda) qual = true) (S : SupF P K mg C cda cc scope ["self", "word", "at"]) (T : OexC K C) (hco : scope.isCoroutine = false) (hgen : scope.isGenerator = false)
    (hfp : (params.posonlyargs ++ params.args).head? = some ar) (har : ar.arg = ("self" : Str)) (hl : (ap.endLine == pos.line) = true) (n1 : PySem.W.findIn K (.ref C) "word" = some none) (n2 : PySem.W.findIn K (.ref C) "at" = some none) :
    FnOk P w K mg base CX (k + 1) f (PySem.W.ksFn name qual params [.Expr (.Call (.Attribute (.Call (.Name "super" p0) [] [] p1) "__init__" ap) [.Name "word" q1, .Name "at" q2] [] pos) pos', .Assign [.Attribute (.Name "self" r1) "word" r2] (.Name "word" r3) r4,
      .Assign [.Attribute (.Name "self" t1) "at" t2] (.Name "at" t3) t4] scope dV kV doc pm an (.ref cda) ct cc) ["self", "word", "at"] (spX C ["word", "at"]) := by
  refine fn_ofS lk hcd S T hco hgen hfp (by rw [har]; rfl) (fun vs H Q E h => ?_) fun A outer s H vs Q E hr h => ?_
  · obtain ⟨a, ws, rfl, h1, _⟩ := h
    simp [h1]
  · obtain ⟨a, ws, rfl, hw, ea, hq⟩ := h
    obtain ⟨v1, v2, rfl⟩ : ∃ v1 v2, ws = [v1, v2] := by
      match ws, hw with
      | [v1, v2], _ => exact ⟨v1, v2, rfl⟩
    have vw : Vis (cxS CX P w K mg base ["self", "word", "at"] qual scope f cda cc A outer s H E).env.scope "word" := .inl (S.par _ (by simp))
    have va : Vis (cxS CX P w K mg base ["self", "word", "at"] qual scope f cda cc A outer s H E).env.scope "at" := .inl (S.par _ (by simp))
    have vs' : Vis (cxS CX P w K mg base ["self", "word", "at"] qual scope f cda cc A outer s H E).env.scope "self" := .inl (S.par _ (by simp))
    have pw : ∀ q, PE (cxS CX P w K mg base ["self", "word", "at"] qual scope f cda cc A outer s H E) (.Name "word" q) _ := fun q => pe_var (i := 1) rfl vw
    have pa : ∀ q, PE (cxS CX P w K mg base ["self", "word", "at"] qual scope f cda cc A outer s H E) (.Name "at" q) _ := fun q => pe_var (i := 2) rfl va
    have ps : ∀ q, PE (cxS CX P w K mg base ["self", "word", "at"] qual scope f cda cc A outer s H E) (.Name "self" q) _ := fun q => pe_var (i := 0) rfl vs'
    refine ⟨a, _, _, _, rfl, ea, pa_cons (pw q1) (pa_cons (pa q2) pa_nil (by rfl)) (by rfl), ?_, by rfl, by rfl, mcallA (by rfl) hl, pss_cons (ps_ost (ps r1) (pw r3)) (pss_cons (ps_ost (ps t1) (pa t3)) pss_nil), ?_⟩
    · exact ⟨v1, rfl, v2, rfl, by show 2 ≤ 1000; decide, rfl⟩
    · refine ⟨v1, rfl, .ref a, rfl, a, C, rfl, T, n1, .inl ⟨ea, fun dx hd hne => ?_⟩⟩
      refine ⟨v2, rfl, .ref a, rfl, a, C, rfl, T, n2, .inr ⟨dx, [("word", v1)], upd_same, by rw [upd_ne hne, upd_same], by show 1 ≤ 900; decide, ?_⟩⟩
      have z := hq dx hd hne
      rw [← upd_lay (o1 := exd dx [("word", v1)]) hne] at z
      exact z
theorem init1_ok {k : Nat} {name : Str} {params : Arguments} {dV kV doc pm ct oc : Value} {an od : Option Addr} {osl : Array (Option Value)} {ar : Arg} {p0 p1 ap pos pos' q1 r1 r2 r3 r4 : Pos}
    (lk : K.lookup f = some ⟨oc, od, .func (PySem.W.ksFn name qual params [.Expr (.Call (.Attribute (.Call (.Name "super" p0) [] [] p1) "__init__" ap) [.Name "word" q1] [] pos) pos', .Assign [.Attribute (.Name "self" r1) "word" r2] (.Name "word" r3) r4] scope dV kV doc pm an (.ref cda) ct cc), osl⟩)
    (hcd : PySem.W.codeIn K (.ref cda) qual = true) (S : SupF P K mg C cda cc scope ["self", "word"]) (T : OexC K C) (hco : scope.isCoroutine = false) (hgen : scope.isGenerator = false)
    (hfp : (params.posonlyargs ++ params.args).head? = some ar) (har : ar.arg = ("self" : Str)) (hl : (ap.endLine == pos.line) = true) (n1 : PySem.W.findIn K (.ref C) "word" = some none) :
    FnOk P w K mg base CX (k + 1) f (PySem.W.ksFn name qual params [.Expr (.Call (.Attribute (.Call (.Name "super" p0) [] [] p1) "__init__" ap) [.Name "word" q1] [] pos) pos', .Assign [.Attribute (.Name "self" r1) "word" r2] (.Name "word" r3) r4] scope dV kV doc pm an (.ref cda) ct cc) ["self", "word"] (spX C ["word"]) := by
  refine fn_ofS lk hcd S T hco hgen hfp (by rw [har]; rfl) (fun vs H Q E h => ?_) fun A outer s H vs Q E hr h => ?_
  · obtain ⟨a, ws, rfl, h1, _⟩ := h
    simp [h1]
  · obtain ⟨a, ws, rfl, hw, ea, hq⟩ := h
    obtain ⟨v1, rfl⟩ : ∃ v1, ws = [v1] := by
      match ws, hw with
      | [v1], _ => exact ⟨v1, rfl⟩
    have vw : Vis (cxS CX P w K mg base ["self", "word"] qual scope f cda cc A outer s H E).env.scope "word" := .inl (S.par _ (by simp))
    have vs' : Vis (cxS CX P w K mg base ["self", "word"] qual scope f cda cc A outer s H E).env.scope "self" := .inl (S.par _ (by simp))
    have pw : ∀ q, PE (cxS CX P w K mg base ["self", "word"] qual scope f cda cc A outer s H E) (.Name "word" q) _ := fun q => pe_var (i := 1) rfl vw
    have ps : ∀ q, PE (cxS CX P w K mg base ["self", "word"] qual scope f cda cc A outer s H E) (.Name "self" q) _ := fun q => pe_var (i := 0) rfl vs'
    refine ⟨a, _, _, _, rfl, ea, pa_cons (pw q1) pa_nil (by rfl), ?_, by rfl, by rfl, mcallA (by rfl) hl, pss_cons (ps_ost (ps r1) (pw r3)) pss_nil, ?_⟩
    · exact ⟨v1, rfl, by show 1 ≤ 1000; decide, rfl⟩
    · refine ⟨v1, rfl, .ref a, rfl, a, C, rfl, T, n1, .inl ⟨ea, fun dx hd hne => ?_⟩⟩
      have z := hq dx hd hne
      rw [← upd_lay1 hne] at z
      exact z
/-- an exception with its fields, let go -/
theorem mkO_of {fl : List Str} {vs : List V} {H1 : Hp} {Q : XK} (hl : vs.length = fl.length) (hf : fl.length ≤ 1000) (hq : ∀ d, H1 d = none → Q (.ref C) (some d) (upd H1 d (.xd (fl.zip vs).reverse))) :
    vs.length ≤ 1000 ∧ ∀ a, H1 a = none → spX C fl (.ref a :: (vs ++ [])) (upd H1 a (exo a C none))
      (fun v H2 => v = .non ∧ ∃ (d : Addr) (fs : List (Str × V)), H2 a = some (exo a C (some d)) ∧ H2 d = some (exd d fs) ∧ H1 d = none ∧ Q (.ref C) (some d) (upd (del H2 a) d (.xd fs))) (fun _ _ _ => False) := by
  refine ⟨by omega, fun a ha => ⟨a, vs ++ [], rfl, by rw [List.append_nil]; exact hl, upd_same, fun d hd hne => ?_⟩⟩
  rw [upd_ne hne] at hd
  refine ⟨rfl, d, _, by rw [upd_ne (Ne.symm hne), upd_same], upd_same, hd, ?_⟩
  rw [List.append_nil]
  have e : upd (del (upd (upd (upd H1 a (exo a C none)) a (exo a C (some d))) d (exd d (fl.zip vs).reverse)) a) d (.xd (fl.zip vs).reverse) = upd H1 d (.xd (fl.zip vs).reverse) := by
    funext b
    by_cases h1 : b = d
    · rw [h1, upd_same, upd_same]
    · rw [upd_ne h1, upd_ne h1]
      by_cases h2 : b = a
      · rw [h2, del_same, ha]
      · rw [del_ne h2, upd_ne h1, upd_ne h2, upd_ne h2]
  rw [e]
  exact hq d hd
end
/-! ### the two classes of the program: by their numbers -/
def xName : Nat → Str
  | 0 => "HeadFault"
  | _ => "WrongUse"
def xFlds : Nat → List Str
  | 0 => ["word", "at"]
  | _ => ["word"]
abbrev xPs (c : Nat) : List Str := "self" :: xFlds c
abbrev xA (K : PySem.W.Frag) (c : Nat) : Addr := He.ga K (xName c)
/-- what the text of such an __init__ is -/
structure XLit (c : Nat) (params : Arguments) (body : List Stmt) (scope : Scope) : Prop where
  bod : (c = 0 ∧ ∃ p0 p1 ap pos pos' q1 q2 r1 r2 r3 r4 t1 t2 t3 t4 : Pos, (ap.endLine == pos.line) = true ∧ body = [.Expr (.Call (.Attribute (.Call (.Name "super" p0) [] [] p1) "__init__" ap) [.Name "word" q1, .Name "at" q2] [] pos) pos', .Assign [.Attribute (.Name "self" r1) "word" r2] (.Name "word" r3) r4,
      .Assign [.Attribute (.Name "self" t1) "at" t2] (.Name "at" t3) t4]) ∨
    (c = 1 ∧ ∃ p0 p1 ap pos pos' q1 r1 r2 r3 r4 : Pos, (ap.endLine == pos.line) = true ∧ body = [.Expr (.Call (.Attribute (.Call (.Name "super" p0) [] [] p1) "__init__" ap) [.Name "word" q1] [] pos) pos', .Assign [.Attribute (.Name "self" r1) "word" r2] (.Name "word" r3) r4])
  hfp : ∃ ar : Arg, (params.posonlyargs ++ params.args).head? = some ar ∧ ar.arg = ("self" : Str)
  co : scope.isCoroutine = false
  gen : scope.isGenerator = false
  kind : scope.kind = .function
  par : (xPs c).all (fun x => scope.names.lookup x == some .local) = true
  fre : scope.names.all (fun y => (y.2 != .free || y.1 == clsN) && y.2 != .cell) = true
  ks : scope.names.lookup ("super" : Str) = some .globalImplicit
  kc : scope.names.lookup clsN = some .free
  bind : ∀ (nm q : Str) (kV doc pm cdv ct : Value) (an : Option Addr) (cc : Addr) (us : List Value), us.length = (xPs c).length → bindArgs (PySem.W.ksFn nm q params body scope .none kV doc pm an cdv ct cc) ⟨us, []⟩ = pure ((xPs c).zip us)
/-- its __init__, as it stands -/
def xFn (K : PySem.W.Frag) (c : Nat) : Option (Addr × FuncData) := match PySem.W.findIn K (.ref (xA K c)) "__init__" with
  | some (some (.ref f)) => (match K.lookup f with
    | some ⟨_, _, .func fd, _⟩ => some (f, fd)
    | _ => none)
  | _ => none
def obsX (K : PySem.W.Frag) (c : Nat) : Option (Arguments × FuncBody × Scope) := (xFn K c).map fun q => (q.2.params, q.2.body, q.2.scope)
def oexB (K : PySem.W.Frag) (C : Addr) : Bool := (match K.lookup C with
  | some ⟨.type z, _, .cls cd, sl⟩ => (match cd.mro, sl.toList with
    | .ref C' :: bm, [_, _, _, _, some (.builtin n), _] => z == "type" && C' == C && n == "ValueError.__new__" && !cd.hasDel && cd.hasDict && PySem.HandSPX.refsVE bm
    | _, _ => false)
  | _ => false) && (decide (PySem.W.findIn K (.ref C) "__setattr__" = some (some (.builtin "object.__setattr__"))) && (decide (PySem.W.subIn K (.ref C) (.type "BaseException") = some true) && (decide (PySem.W.typeIn K (.ref C) = some (.type "type")) && PySem.W.keepIn K (.ref C))))
theorem oexB_ok {K : PySem.W.Frag} {C : Addr} (h : oexB K C = true) : OexC K C := by
  simp only [oexB, Bool.and_eq_true, decide_eq_true_eq] at h
  obtain ⟨h1, h2, h3, h4, h5⟩ := h
  refine ⟨?_, h2, h3, h4, h5⟩
  split at h1
  · rename_i z dd cd sl ho
    split at h1
    · rename_i C' bm k0 k1 k2 k3 n k5 hm hs
      simp only [Bool.and_eq_true, beq_iff_eq, Bool.not_eq_true'] at h1
      obtain ⟨⟨⟨⟨⟨rfl, rfl⟩, rfl⟩, hd⟩, hh⟩, hv⟩ := h1
      obtain ⟨nm, bs, mro, N, q, hdct, sn, sub, ab, col, del⟩ := cd
      dsimp only at hm hd hh
      subst hm hd hh
      obtain rfl : sl = #[k0, k1, k2, k3, some (.builtin "ValueError.__new__"), k5] := by
        cases sl
        exact congrArg _ hs
      exact ⟨nm, q, N, bs, bm, sn, sub, ab, col, dd, k0, k1, k2, k3, k5, ho, hv⟩
    · cases h1
  · cases h1
def fileB (K : PySem.W.Frag) (a : Addr) (file : Str) : Bool := match K.lookup a with
  | some ⟨_, _, .fields vs, _⟩ => (match (vs[2]? : Option Value) with
    | some (.str z _) => z == file
    | _ => false)
  | _ => false
def cellB (K : PySem.W.Frag) (a C : Addr) : Bool := match K.lookup a with
  | some ⟨_, _, .cell (some (.ref C')), _⟩ => C' == C
  | _ => false
def excB (K : PySem.W.Frag) (file : Str) (c : Nat) : Bool := oexB K (xA K c) && (xfB K (xA K c) && ((match PySem.W.findIn K (.ref (xA K c)) "__init__" with
  | some (some (.ref f)) => decide (PySem.W.typeIn K (.ref f) = some (.type "function"))
  | _ => false) && ((match xFn K c with
  | some (_, fd) => (match fd.defaults, fd.code, fd.closure with
    | .none, .ref cda, [(cn, cc)] => decide (cn = clsN) && PySem.W.codeIn K (.ref cda) fd.qualname && fileB K cda file && cellB K cc (xA K c) && decide (fd.globals = mainGlobals) && decide (fd.builtins = builtinsNs)
    | _, _, _ => false)
  | _ => false) && (decide (PySem.W.nsIn K cStatics "thirdparty.any" = some none) && (decide (PySem.W.ks_superIn K (xA K c) (xA K c) "__init__" = some (some (.builtin "ValueError.__init__"))) && (decide (PySem.W.subIn K (.ref (xA K c)) (.type "ValueError") = some true) && (decide (PySem.W.mroIn K (xA K c) (.ref (xA K c)) = some true) &&
  ((xFlds c).all (fun f => decide (PySem.W.findIn K (.ref (xA K c)) f = some none)) && (decide (PySem.W.exmOne K (.ref (xA K c)) (.ref (xA K c)) = some true) && decide (PySem.W.nsIn K mainGlobals (xName c) = some (some (.ref (xA K c)))))))))))))
/-- what the hand layer needs of class c -/
structure ExcC (K : PySem.W.Frag) (file : Str) (c : Nat) : Prop where
  T : OexC K (xA K c)
  F : XfC K (xA K c)
  no : ∀ f ∈ xFlds c, PySem.W.findIn K (.ref (xA K c)) f = some none
  exm : PySem.W.exmOne K (.ref (xA K c)) (.ref (xA K c)) = some true
  glo : PySem.W.nsIn K mainGlobals (xName c) = some (some (.ref (xA K c)))
  fn : ∃ fI fd, PySem.W.findIn K (.ref (xA K c)) "__init__" = some (some (.ref fI)) ∧ PySem.W.typeIn K (.ref fI) = some (.type "function") ∧ Binds K fd (xPs c) [] ∧
    ∀ (CX : CXT) (P : Program) (w : World) (mg : Str → Option Value) (base : Heap) (k : Nat), mg "super" = none → P.main.file = file → (P.main.scope.names.lookup ("super" : Str)).isSome = false →
      FnOk P w K mg base CX (k + 1) fI fd (xPs c) (spX (xA K c) (xFlds c))
theorem exc_fn {K : PySem.W.Frag} {file : Str} {c : Nat} {params : Arguments} {body : List Stmt} {scope : Scope} (L : XLit c params body scope) (ho : obsX K c = some (params, .stmts body, scope)) (hb : excB K file c = true) : ExcC K file c := by
  simp only [excB, Bool.and_eq_true, decide_eq_true_eq] at hb
  obtain ⟨b1, b2, b3, b4, b5, b6, b7, b8, b9, b10, b11⟩ := hb
  have T := oexB_ok b1
  have no : ∀ f ∈ xFlds c, PySem.W.findIn K (.ref (xA K c)) f = some none := fun f hf => of_decide_eq_true (List.all_eq_true.mp b9 f hf)
  refine ⟨T, xfB_ok b2, no, b10, b11, ?_⟩
  have fr : ∀ y ∈ scope.names, (y.2 = .free → y.1 = clsN) ∧ y.2 ≠ .cell := fun y hy => by
    have z := List.all_eq_true.mp L.fre y hy
    simp only [Bool.and_eq_true, Bool.or_eq_true, bne_iff_ne, beq_iff_eq] at z
    exact ⟨fun e => z.1.resolve_left fun n => n e, z.2⟩
  unfold obsX at ho
  cases hx : xFn K c with
  | none => rw [hx] at ho; cases ho
  | some q =>
    obtain ⟨fI, fd⟩ := q
    rw [hx] at ho b4
    have ho' : (fd.params, fd.body, fd.scope) = (params, FuncBody.stmts body, scope) := Option.some.inj ho
    obtain ⟨nm, qual, ps', bd', sc', gl, cl, dV, kV, doc, pm, an, cdv, ct, bl⟩ := fd
    simp only [Prod.mk.injEq] at ho'
    obtain ⟨rfl, rfl, rfl⟩ := ho'
    dsimp only at b4
    split at b4
    · rename_i cda cn cc
      simp only [Bool.and_eq_true, decide_eq_true_eq] at b4
      obtain ⟨⟨⟨⟨⟨d1, d2⟩, d3⟩, d4⟩, d5⟩, d6⟩ := b4
      subst d1 d5 d6
      unfold xFn at hx
      split at hx
      · rename_i f hf
        rw [hf] at b3
        dsimp only at b3
        split at hx
        · rename_i oc od fd' osl hl
          cases hx
          have S : ∀ (P : Program) (mg : Str → Option Value), mg "super" = none → P.main.file = file → (P.main.scope.names.lookup ("super" : Str)).isSome = false → SupF P K mg (xA K c) cda cc sc' (xPs c) := fun P mg z1 z2 z3 => by
            refine ⟨?_, ?_, z3, b5, b6, b7, b8, z1, L.kind, fun x hx => ?_, ?_, fun y hy => ?_, fun y hy => (fr y hy).2, L.ks, L.kc⟩
            · unfold fileB at d3
              split at d3
              · rename_i ccl cdd vs ccs e
                split at d3
                · rename_i z tz ez
                  exact ⟨ccl, cdd, vs, ccs, z, tz, e, ez, by rw [z2, eq_of_beq d3]; exact beq_self_eq_true _⟩
                · cases d3
              · cases d3
            · unfold cellB at d4
              split at d4
              · rename_i cl' cld C' csl e
                have e3 : C' = xA K c := eq_of_beq d4
                subst e3
                exact ⟨cl', cld, csl, e⟩
              · cases d4
            · exact eq_of_beq (List.all_eq_true.mp L.par x hx)
            · rcases L.bod with ⟨rfl, _⟩ | ⟨rfl, _⟩ <;> decide
            · exact (fr _ (PySem.mem_of_lookup hy)).1 rfl
          obtain ⟨ar, ha1, ha2⟩ := L.hfp
          refine ⟨fI, PySem.W.ksFn nm qual ps' body sc' .none kV doc pm an (.ref cda) ct cc, hf, of_decide_eq_true b3, Binds.all fun us hl => L.bind nm qual kV doc pm (.ref cda) ct an cc us hl, fun CX P w mg base k z1 z2 z3 => ?_⟩
          rcases L.bod with ⟨rfl, p0, p1, ap, pos, pos', q1, q2, r1, r2, r3, r4, t1, t2, t3, t4, hl2, rfl⟩ | ⟨rfl, p0, p1, ap, pos, pos', q1, r1, r2, r3, r4, hl2, rfl⟩
          · exact init2_ok hl d2 (S P mg z1 z2 z3) T L.co L.gen ha1 ha2 hl2 (no _ (by decide)) (no _ (by decide))
          · exact init1_ok hl d2 (S P mg z1 z2 z3) T L.co L.gen ha1 ha2 hl2 (no _ (by decide))
        · cases hx
      · cases hx
    · cases b4
end MP

set_option Elab.async false
set_option linter.all false
set_option maxRecDepth 100000
/-! MPa: a small language of values: what an expression, a statement, a call gives, as a total function over a heap that is a list. -/
namespace MP
open PySem L2

/-! ### values, objects, results -/
inductive Val where
  | non
  | bl (b : Bool)
  | int (i : Int)
  | str (s : List Nat)
  | tup (vs : List Val)
  | ref (n : Nat)
abbrev Ky := Sum Int (List Nat)
inductive Ob where
  | lst (vs : List Val)
  | frz (vs : List Val)
  | dct (kvs : List (Ky × Val))
  | ins (c : Nat) (fs : List (Nat × Val))
abbrev Hs := List Ob
abbrev Sl := List (Option Val)
inductive R (α : Type) where
  | ok (a : α) (h : Hs)
  | exc (c : Nat) (vs : List Val) (h : Hs)
  | stk
def R.bind {α β : Type} (r : R α) (f : α → Hs → R β) : R β := match r with
  | .ok a h => f a h
  | .exc c vs h => .exc c vs h
  | .stk => .stk
@[simp] theorem R.bind_ok {α β : Type} (a : α) (h : Hs) (f : α → Hs → R β) : (R.ok a h).bind f = f a h := rfl
@[simp] theorem R.bind_exc {α β : Type} (c : Nat) (vs : List Val) (h : Hs) (f : α → Hs → R β) : (R.exc c vs h : R α).bind f = .exc c vs h := rfl
@[simp] theorem R.bind_stk {α β : Type} (f : α → Hs → R β) : (R.stk : R α).bind f = .stk := rfl
def ofO {α : Type} (o : Option α) (h : Hs) : R α := match o with
  | some a => .ok a h
  | none => .stk
@[simp] theorem ofO_some {α : Type} (a : α) (h : Hs) : ofO (some a) h = .ok a h := rfl
@[simp] theorem ofO_none {α : Type} (h : Hs) : ofO (none : Option α) h = .stk := rfl
/-- what a statement ends with -/
inductive O where
  | nx (st : Sl) (h : Hs)
  | rt (v : Val) (h : Hs)
  | bk (st : Sl) (h : Hs)
  | ct (st : Sl) (h : Hs)
  | exc (c : Nat) (vs : List Val) (h : Hs)
  | stk

mutual
def Val.beq : Val → Val → Bool
  | .non, .non => true
  | .bl a, .bl b => decide (a = b)
  | .int a, .int b => decide (a = b)
  | .str a, .str b => decide (a = b)
  | .tup a, .tup b => Val.beqs a b
  | .ref a, .ref b => decide (a = b)
  | _, _ => false
def Val.beqs : List Val → List Val → Bool
  | [], [] => true
  | a :: r, b :: s => Val.beq a b && Val.beqs r s
  | _, _ => false
end
mutual
theorem Val.beq_eq : ∀ (a b : Val), Val.beq a b = true → a = b
  | .non, b, h => by cases b <;> simp_all [Val.beq]
  | .bl a, b, h => by cases b <;> simp_all [Val.beq]
  | .int a, b, h => by cases b <;> simp_all [Val.beq]
  | .str a, b, h => by cases b <;> simp_all [Val.beq]
  | .ref a, b, h => by cases b <;> simp_all [Val.beq]
  | .tup a, .tup b, h => by
    rw [Val.beq] at h
    rw [Val.beqs_eq a b h]
  | .tup a, .non, h => by simp [Val.beq] at h
  | .tup a, .bl _, h => by simp [Val.beq] at h
  | .tup a, .int _, h => by simp [Val.beq] at h
  | .tup a, .str _, h => by simp [Val.beq] at h
  | .tup a, .ref _, h => by simp [Val.beq] at h
theorem Val.beqs_eq : ∀ (a b : List Val), Val.beqs a b = true → a = b
  | [], [], _ => rfl
  | [], _ :: _, h => by simp [Val.beqs] at h
  | _ :: _, [], h => by simp [Val.beqs] at h
  | a :: r, b :: s, h => by
    rw [Val.beqs, Bool.and_eq_true] at h
    rw [Val.beq_eq a b h.1, Val.beqs_eq r s h.2]
end
mutual
theorem Val.beq_refl : ∀ a : Val, Val.beq a a = true
  | .non => by simp [Val.beq]
  | .bl a => by simp [Val.beq]
  | .int a => by simp [Val.beq]
  | .str a => by simp [Val.beq]
  | .ref a => by simp [Val.beq]
  | .tup a => by
    rw [Val.beq]
    exact Val.beqs_refl a
theorem Val.beqs_refl : ∀ a : List Val, Val.beqs a a = true
  | [] => by simp [Val.beqs]
  | a :: r => by
    rw [Val.beqs, Val.beq_refl a, Val.beqs_refl r]
    rfl
end

/-! ### the language -/
inductive Prim where
  | len | int | abs | min | max | str | tuple | list | sum | sorted | ord | min1 | max1
  deriving DecidableEq
inductive PM where
  | append | extend | pop | find | split | strip | stripC | lower | upper | join | index | get | get2 | startswith | dpop | sindex
  deriving DecidableEq
inductive Ty where
  | bool | int | str | list | tuple
  deriving DecidableEq
/-- a target: a name, or a tuple of names -/
inductive Tg where
  | nm (i : Nat)
  | tup (js : List Nat)
mutual
inductive E where
  | var (i : Nat)
  | non
  | tt (b : Bool)
  | int (i : Int)
  | str (s : List Nat)
  | glob (k : Nat)
  | bin (op : Operator) (a b : E)
  | neg (a : E)
  | not (a : E)
  | cmp (op : CmpOp) (a b : E)
  | chain (op op2 : CmpOp) (a b c : E)
  | chain3 (op op2 op3 : CmpOp) (a b c d : E)
  | and (a b : E)
  | or (a b : E)
  | ife (c a b : E)
  | tup (es : Es)
  | lst (es : Es)
  | dic (kvs : Es)
  | call (f : Nat) (es : Es)
  | new (c : Nat) (es : Es)
  | meth (o : E) (m : Nat) (es : Es)
  | prim (p : Prim) (es : Es)
  | pm (p : PM) (o : E) (es : Es)
  | fld (o : E) (f : Nat)
  | ix (a b : E)
  | sl (a : E) (lo hi : Eo)
  | lc (elt : E) (tg : Tg) (it : I) (cond : Eo) (own : List (Str × Nat))
  | gix (k : Nat) (e : E)
  | isi (e : E) (t : Ty)
  | catR (a o : E) (yz : List (List Nat × List Nat))
  | fmt (e : E) (w : Nat)
  | js (es : Es)
  | maxD (a d : E)
  | rlst (a b : E)
  | gdct (x : Str) (kvs : List (List Nat × Int)) (d : Option Int) (e : E)
inductive Es where
  | nil
  | cons (e : E) (es : Es)
inductive Eo where
  | none
  | some (e : E)
/-- what is walked -/
inductive I where
  | val (e : E)
  | rng1 (a : E)
  | rng2 (a b : E)
  | rng3 (a b c : E)
  | enu (e : E)
end
mutual
inductive S where
  | expr (e : E)
  | asg (t : Tg) (e : E)
  | fld (o : E) (f : Nat) (e : E)
  | sub (o i e : E)
  | aug (i : Nat) (op : Operator) (e : E)
  | augF (o : E) (f : Nat) (op : Operator) (e : E)
  | augS (o i : E) (op : Operator) (e : E)
  | del (o i : E)
  | ifs (c : E) (a b : Ss)
  | fors (t : Tg) (it : I) (body : Ss)
  | whil (c : E) (body : Ss)
  | ret (e : E)
  | retN
  | brk
  | cont
  | pass
  | nev
  | rais (c : Nat) (es : Es)
  | try2 (body : Ss) (i : Nat)
inductive Ss where
  | nil
  | cons (s : S) (ss : Ss)
end

/-! ### operations on values -/
def lim : Nat := 16777216
@[simp] def seqOf (h : Hs) : Val → Option (List Val)
  | .tup vs => some vs
  | .ref n => match h[n]? with
    | some (.lst vs) => some vs
    | some (.frz vs) => some vs
    | _ => none
  | _ => none
@[simp] def toKy : Val → Option Ky
  | .int i => some (.inl i)
  | .str s => some (.inr s)
  | _ => none
@[simp] def ofKy : Ky → Val
  | .inl i => .int i
  | .inr s => .str s
def dget (kvs : List (Ky × Val)) (k : Ky) : Option Val := (kvs.find? fun kv => decide (kv.1 = k)).map (·.2)
def dput (kvs : List (Ky × Val)) (k : Ky) (v : Val) : List (Ky × Val) :=
  if (kvs.any fun kv => decide (kv.1 = k)) then kvs.map (fun kv => if kv.1 = k then (kv.1, v) else kv) else kvs ++ [(k, v)]
def dmerge (more : List (Ky × Val)) : List (Ky × Val) := more.foldl (fun acc kv => dput acc kv.1 kv.2) []
def pairsOf : List Val → Option (List (Ky × Val))
  | [] => some []
  | k :: v :: r => match toKy k, pairsOf r with
    | some k, some ps => some ((k, v) :: ps)
    | _, _ => none
  | [_] => none
def ddel (kvs : List (Ky × Val)) (k : Ky) : List (Ky × Val) := kvs.filter fun kv => decide (kv.1 ≠ k)
@[simp] def dctOf (h : Hs) : Val → Option (List (Ky × Val))
  | .ref n => match h[n]? with
    | some (.dct kvs) => some kvs
    | _ => none
  | _ => none
/-- data, for == : lists by their contents -/
def oall {α β : Type} (f : α → Option β) : List α → Option (List β)
  | [] => some []
  | v :: vs => match f v, oall f vs with
    | some d, some ds => some (d :: ds)
    | _, _ => none
def dat (h : Hs) : Nat → Val → Option PyData
  | 0, _ => none
  | n + 1, v => match v with
    | .non => some .none
    | .bl b => some (.bool b)
    | .int i => some (.int i)
    | .str s => some (.str ⟨s.toArray⟩)
    | .tup vs => (oall (dat h n) vs).map .tuple
    | .ref a => match h[a]? with
      | some (.lst vs) => (oall (dat h n) vs).map .list
      | some (.frz vs) => (oall (dat h n) vs).map .list
      | _ => none
def deq (h : Hs) (a b : Val) : Option Bool := match dat h 12 a, dat h 12 b with
  | some d, some e => if SeqAt.shaped d = true ∧ SeqAt.shaped e = true then some (PyData.eqv d e) else none
  | _, _ => none
/-- == -/
@[simp] def eqF (h : Hs) (a b : Val) : Option Bool := match a, b with
  | .non, .non => some true
  | .int i, .int j => some (decide (i = j))
  | .bl i, .bl j => some (decide (i = j))
  | .str i, .str j => some (decide (i = j))
  | .non, .int _ => some false
  | .non, .bl _ => some false
  | .non, .str _ => some false
  | .int _, .non => some false
  | .bl _, .non => some false
  | .str _, .non => some false
  | .int _, .str _ => some false
  | .str _, .int _ => some false
  | .bl _, .str _ => some false
  | .str _, .bl _ => some false
  | a, b => deq h a b
/-- y in xs -/
@[simp] def flat : Val → Bool
  | .non => true
  | .bl _ => true
  | .int _ => true
  | .str _ => true
  | _ => false
def eqW : Val → Val → Bool
  | .non, .non => true
  | .bl a, .bl b => a == b
  | .bl a, .int b => (if a then 1 else 0) == b
  | .int a, .bl b => a == (if b then 1 else 0)
  | .int a, .int b => decide (a = b)
  | .str a, .str b => decide (a = b)
  | _, _ => false
def inDeep (h : Hs) (x : Val) (vs : List Val) (y : Val) : Option Bool := match y with
  | .ref _ => (match dat h 12 x, oall (dat h 11) vs with
    | some d, some ds => if SeqAt.shaped d = true ∧ SeqAt.shaped (.list ds) = true then some (ds.any fun z => PyData.eqv z d) else none
    | _, _ => none)
  | .tup _ => (match dat h 12 x, oall (dat h 11) vs with
    | some d, some ds => if SeqAt.shaped d = true ∧ SeqAt.shaped (.list ds) = true then some (ds.any fun z => PyData.eqv z d) else none
    | _, _ => none)
  | _ => none
@[simp] def inSq (h : Hs) (x y : Val) (vs : List Val) : Option Bool := if flat x = true ∧ vs.all flat = true then some (vs.any fun z => eqW z x) else inDeep h x vs y
@[simp] def inGen (h : Hs) (x y : Val) : Option Bool := match dctOf h y with
  | some kvs => (toKy x).map fun k => (dget kvs k).isSome
  | none => match seqOf h y with
    | some vs => inSq h x y vs
    | none => none
@[simp] def inF (h : Hs) (x y : Val) : Option Bool := match y with
  | .str s => (match x with
    | .str [c] => some (decide (c ∈ s))
    | _ => none)
  | y => inGen h x y
def ltL (a b : List Nat) : Bool := decide (a < b)
@[simp] def isInts : List Val → Option (List Int)
  | [] => some []
  | .int i :: r => (isInts r).map (i :: ·)
  | _ => none
/-- tuples of numbers, x < y -/
def ltTs (vs ws : List Val) : Option Bool := match isInts vs, isInts ws with
  | some a, some b => some (HT.lexLt a b)
  | _, _ => none
@[simp] def cmpF (op : CmpOp) (a b : Val) (h : Hs) : R Val := match op with
  | .Eq => (ofO (eqF h a b) h).bind fun k h => .ok (.bl k) h
  | .NotEq => (ofO (eqF h a b) h).bind fun k h => .ok (.bl (!k)) h
  | .Lt => (match a, b with
    | .int i, .int j => .ok (.bl (decide (i < j))) h
    | .str i, .str j => .ok (.bl (ltL i j)) h
    | .tup i, .tup j => (ofO (ltTs i j) h).bind fun k h => .ok (.bl k) h
    | _, _ => .stk)
  | .LtE => (match a, b with
    | .int i, .int j => .ok (.bl (decide (i ≤ j))) h
    | .str i, .str j => .ok (.bl (!ltL j i)) h
    | _, _ => .stk)
  | .Gt => (match a, b with
    | .int i, .int j => .ok (.bl (decide (j < i))) h
    | .str i, .str j => .ok (.bl (ltL j i)) h
    | .tup i, .tup j => (ofO (ltTs j i) h).bind fun k h => .ok (.bl k) h
    | _, _ => .stk)
  | .GtE => (match a, b with
    | .int i, .int j => .ok (.bl (decide (j ≤ i))) h
    | .str i, .str j => .ok (.bl (!ltL i j)) h
    | _, _ => .stk)
  | .Is => (match a, b with
    | a, .non => .ok (.bl (match a with | .non => true | _ => false)) h
    | _, _ => .stk)
  | .IsNot => (match a, b with
    | a, .non => .ok (.bl (match a with | .non => false | _ => true)) h
    | _, _ => .stk)
  | .In => (ofO (inF h a b) h).bind fun k h => .ok (.bl k) h
  | .NotIn => (ofO (inF h a b) h).bind fun k h => .ok (.bl (!k)) h
@[simp] def new (ob : Ob) (h : Hs) : R Val := .ok (.ref h.length) (h ++ [ob])
def rep {α : Type} (xs : List α) (k : Int) : List α := (List.replicate k.toNat xs).flatten
def bits (i : Int) : Nat := i.natAbs.log2
@[simp] def binF (op : Operator) (a b : Val) (h : Hs) : R Val := match op with
  | .Add => (match a, b with
    | .int i, .int j => .ok (.int (i + j)) h
    | .str i, .str j => if i.length + j.length ≤ lim then .ok (.str (i ++ j)) h else .stk
    | .tup i, .tup j => if i.length + j.length ≤ lim then .ok (.tup (i ++ j)) h else .stk
    | .ref l, .ref m => (match h[l]?, h[m]? with
      | some (.lst i), some (.lst j) => if i.length + j.length ≤ lim then new (.lst (i ++ j)) h else .stk
      | _, _ => .stk)
    | _, _ => .stk)
  | .Sub => (match a, b with
    | .int i, .int j => .ok (.int (i - j)) h
    | _, _ => .stk)
  | .Mult => (match a, b with
    | .int i, .int j => if bits i + bits j < 1000000 then .ok (.int (i * j)) h else .stk
    | .ref l, .int k => (match h[l]? with
      | some (.lst i) => if k < 1048576 ∧ -1048576 < k ∧ i.length * k.toNat ≤ lim then new (.lst (rep i k)) h else .stk
      | _ => .stk)
    | _, _ => .stk)
  | .FloorDiv => (match a, b with
    | .int i, .int j => if 0 < j ∧ bits j < 9000 then .ok (.int (i / j)) h else .stk
    | _, _ => .stk)
  | .Mod => (match a, b with
    | .int i, .int j => if 0 < j then .ok (.int (i % j)) h else .stk
    | _, _ => .stk)
  | .Pow => (match a, b with
    | .int i, .int j => if 0 ≤ j ∧ j ≤ 1000000 ∧ i.natAbs < 2 ^ 64 then .ok (.int (i ^ j.toNat)) h else .stk
    | _, _ => .stk)
  | .LShift => (match a, b with
    | .int i, .int j => if 0 ≤ j ∧ j ≤ 1000000 ∧ i.natAbs < 2 ^ 64 then .ok (.int (i * 2 ^ j.toNat)) h else .stk
    | _, _ => .stk)
  | .RShift => (match a, b with
    | .int i, .int j => if 0 ≤ j then .ok (.int (i / 2 ^ j.toNat)) h else .stk
    | _, _ => .stk)
  | .BitAnd => (match a, b with
    | .int i, .int j => .ok (.int (Builtin.bitAnd i j)) h
    | _, _ => .stk)
  | .BitOr => (match a, b with
    | .int i, .int j => .ok (.int (Builtin.bitOr i j)) h
    | _, _ => .stk)
  | .BitXor => (match a, b with
    | .int i, .int j => .ok (.int (Builtin.bitXor i j)) h
    | _, _ => .stk)
  | _ => .stk
/-- a op= b -/
@[simp] def ipF (op : Operator) (a b : Val) (h : Hs) : R Val := match op with
  | .Add => (match a, b with
    | .int i, .int j => .ok (.int (i + j)) h
    | .str i, .str j => if i.length + j.length ≤ lim then .ok (.str (i ++ j)) h else .stk
    | .ref l, .ref m => (match h[l]?, h[m]? with
      | some (.lst i), some (.lst j) => if i.length + j.length ≤ lim then .ok (.ref l) (h.set l (.lst (i ++ j))) else .stk
      | _, _ => .stk)
    | _, _ => .stk)
  | .Sub => (match a, b with
    | .int i, .int j => .ok (.int (i - j)) h
    | _, _ => .stk)
  | .Mult => (match a, b with
    | .int i, .int j => if (-(2 ^ 64) < i ∧ i < 2 ^ 64) ∨ (-(2 ^ 64) < j ∧ j < 2 ^ 64) then .ok (.int (i * j)) h else .stk
    | _, _ => .stk)
  | .FloorDiv => (match a, b with
    | .int i, .int j => if 0 < j ∧ bits j < 9000 then .ok (.int (i / j)) h else .stk
    | _, _ => .stk)
  | .Mod => (match a, b with
    | .int i, .int j => if 0 < j then .ok (.int (i % j)) h else .stk
    | _, _ => .stk)
  | .LShift => (match a, b with
    | .int i, .int j => if 0 ≤ j ∧ j ≤ 1000000 ∧ i.natAbs < 2 ^ 64 then .ok (.int (i * 2 ^ j.toNat)) h else .stk
    | _, _ => .stk)
  | .RShift => (match a, b with
    | .int i, .int j => if 0 ≤ j then .ok (.int (i / 2 ^ j.toNat)) h else .stk
    | _, _ => .stk)
  | .BitAnd => (match a, b with
    | .int i, .int j => .ok (.int (Builtin.bitAnd i j)) h
    | _, _ => .stk)
  | .BitOr => (match a, b with
    | .int i, .int j => .ok (.int (Builtin.bitOr i j)) h
    | _, _ => .stk)
  | .BitXor => (match a, b with
    | .int i, .int j => .ok (.int (Builtin.bitXor i j)) h
    | _, _ => .stk)
  | _ => .stk
@[simp] def truF (h : Hs) (v : Val) : Option Bool := match v with
  | .non => some false
  | .bl b => some b
  | .int i => some (i != 0)
  | .str s => if s.length ≤ lim then some (!s.isEmpty) else none
  | .tup vs => some (!vs.isEmpty)
  | .ref n => match h[n]? with
    | some (.lst vs) => some (!vs.isEmpty)
    | some (.frz vs) => some (!vs.isEmpty)
    | some (.dct kvs) => some (!kvs.isEmpty)
    | _ => none
def cutL {α : Type} (xs : List α) (lo hi : Option Int) : List α := (xs.drop (HT.sIx xs.length 0 lo)).take (HT.sIx xs.length xs.length hi - HT.sIx xs.length 0 lo)
@[simp] def slF (a : Val) (lo hi : Option Int) (h : Hs) : R Val := match a with
  | .str s => if s.length ≤ lim then .ok (.str (cutL s lo hi)) h else .stk
  | .tup vs => .ok (.tup (cutL vs lo hi)) h
  | .ref n => (match h[n]? with
    | some (.lst vs) => new (.lst (cutL vs lo hi)) h
    | some (.frz vs) => new (.lst (cutL vs lo hi)) h
    | _ => .stk)
  | _ => .stk
@[simp] def ixL (vs : List Val) (b : Val) (h : Hs) : R Val := match b with
  | .int i => ofO (atI vs i) h
  | _ => .stk
@[simp] def ixF (a b : Val) (h : Hs) : R Val := match a, b with
  | .str s, .int i => if s.length ≤ lim then (ofO (atI s i) h).bind fun c h => .ok (.str [c]) h else .stk
  | .tup vs, .int i => ofO (atI vs i) h
  | .ref n, b => (match h[n]? with
    | some (.lst vs) => ixL vs b h
    | some (.frz vs) => ixL vs b h
    | some (.dct kvs) => (match toKy b with
      | some k => ofO (dget kvs k) h
      | none => .stk)
    | _ => .stk)
  | _, _ => .stk
/-- o[i] of o[i] op= e -/
@[simp] def gtF (a b : Val) (h : Hs) : R Val := match a with
  | .ref n => (match h[n]? with
    | some (.lst vs) => ixL vs b h
    | some (.dct kvs) => (match toKy b with
      | some k => ofO (dget kvs k) h
      | none => .stk)
    | _ => .stk)
  | _ => .stk
/-- o[i] = v -/
@[simp] def setF (o i v : Val) (h : Hs) : Option Hs := match o with
  | .ref n => (match h[n]? with
    | some (.lst vs) => (match i with
      | .int k => (match ixN vs.length k with
        | some j => some (h.set n (.lst (vs.set j v)))
        | none => none)
      | _ => none)
    | some (.dct kvs) => (match toKy i with
      | some k => if kvs.length < lim then some (h.set n (.dct (dput kvs k v))) else none
      | none => none)
    | _ => none)
  | _ => none
@[simp] def delF (o i : Val) (h : Hs) : Option Hs := match o with
  | .ref n => (match h[n]? with
    | some (.dct kvs) => (match toKy i with
      | some k => if (dget kvs k).isSome then some (h.set n (.dct (ddel kvs k))) else none
      | none => none)
    | _ => none)
  | _ => none
@[simp] def fget (fs : List (Nat × Val)) (f : Nat) : Option Val := fs.lookup f
@[simp] def fput (f : Nat) (v : Val) : List (Nat × Val) → List (Nat × Val)
  | [] => [(f, v)]
  | (g, x) :: r => if g = f then (g, v) :: r else (g, x) :: fput f v r
@[simp] def fldF (o : Val) (f : Nat) (h : Hs) : R Val := match o with
  | .ref n => (match h[n]? with
    | some (.ins _ fs) => ofO (fget fs f) h
    | _ => .stk)
  | _ => .stk
@[simp] def clsF (o : Val) (h : Hs) : Option Nat := match o with
  | .ref n => (match h[n]? with
    | some (.ins c _) => some c
    | _ => none)
  | _ => none
@[simp] def setFld (ok : Nat → Nat → Bool) (o : Val) (f : Nat) (v : Val) (h : Hs) : Option Hs := match o with
  | .ref n => (match h[n]? with
    | some (.ins c fs) => if fs.length < 1000 ∧ ok c f = true then some (h.set n (.ins c (fput f v fs))) else none
    | _ => none)
  | _ => none
@[simp] def isStrs : List Val → Option (List (List Nat))
  | [] => some []
  | .str i :: r => (isStrs r).map (i :: ·)
  | _ => none
/-- ints, ascending -/
def insI (x : Int) : List Int → List Int
  | [] => [x]
  | y :: r => if x ≤ y then x :: y :: r else y :: insI x r
def srtI : List Int → List Int
  | [] => []
  | x :: r => insI x (srtI r)
/-- pairs of numbers, ascending -/
def isPrs : List Val → Option (List (Int × Int))
  | [] => some []
  | .tup [.int i, .int j] :: r => (isPrs r).map ((i, j) :: ·)
  | _ => none
def prLe (p q : Int × Int) : Bool := decide (p.1 < q.1) || (decide (p.1 = q.1) && decide (p.2 ≤ q.2))
def insP (x : Int × Int) : List (Int × Int) → List (Int × Int)
  | [] => [x]
  | y :: r => if prLe x y = true then x :: y :: r else y :: insP x r
def srtP : List (Int × Int) → List (Int × Int)
  | [] => []
  | x :: r => insP x (srtP r)
def prOk (p : Int × Int) : Bool := decide (0 ≤ p.1 ∧ p.1 < 1099511627776 ∧ 0 ≤ p.2 ∧ p.2 < 1099511627776)
def prV (p : Int × Int) : Val := .tup [.int p.1, .int p.2]
def srtPF (o : Option (List (Int × Int))) (h : Hs) : R Val := match o with
  | some ps => if ps.length < 64 ∧ ps.all prOk = true then new (.lst ((srtP ps).map prV)) h else .stk
  | none => .stk
/-- the least, the greatest -/
def mnI : List Int → Option Int
  | [] => none
  | x :: r => match mnI r with
    | none => some x
    | some m => some (if m < x then m else x)
def mxI : List Int → Option Int
  | [] => none
  | x :: r => match mxI r with
    | none => some x
    | some m => some (if x < m then m else x)
@[simp] def mnK (f : List Int → Option Int) (vs : Option (List Val)) (h : Hs) : R Val := match vs with
  | some ws => (match isInts ws with
    | some ns => (match f ns with
      | some i => .ok (.int i) h
      | none => .stk)
    | none => .stk)
  | none => .stk
def numS (i : Int) : List Nat := (Str.ofString (toString i)).cps.toList
@[simp] def primF (p : Prim) (vs : List Val) (h : Hs) : R Val := match p, vs with
  | .len, [.str s] => if s.length ≤ lim then .ok (.int s.length) h else .stk
  | .len, [v] => (match seqOf h v with
    | some ws => .ok (.int ws.length) h
    | none => (match dctOf h v with
      | some kvs => .ok (.int kvs.length) h
      | none => .stk))
  | .int, [.int i] => .ok (.int i) h
  | .int, [.bl b] => .ok (.int (if b then 1 else 0)) h
  | .int, [.str s] => (match intText? ⟨s.toArray⟩ with
    | some n => if s.length ≤ 640 then .ok (.int n) h else .stk
    | none => .stk)
  | .abs, [.int i] => .ok (.int (if i < 0 then -i else i)) h
  | .min, [.int i, .int j] => .ok (.int (if j < i then j else i)) h
  | .max, [.int i, .int j] => .ok (.int (if j > i then j else i)) h
  | .str, [.int i] => if bits i < 1920 then .ok (.str (numS i)) h else .stk
  | .tuple, [v] => ofO ((seqOf h v).map .tup) h
  | .list, [v] => (match seqOf h v with
    | some ws => new (.lst ws) h
    | none => .stk)
  | .sum, [.ref n] => (match seqOf h (.ref n) with
    | some ws => (match isInts ws with
      | some ns => .ok (.int ns.sum) h
      | none => .stk)
    | none => .stk)
  | .sorted, [.ref n] => (match seqOf h (.ref n) with
    | some ws => (match isInts ws with
      | some ns => if ns.length < 64 then new (.lst ((srtI ns).map .int)) h else .stk
      | none => srtPF (isPrs ws) h)
    | none => (match dctOf h (.ref n) with
      | some kvs => (match isInts (kvs.map fun q => ofKy q.1) with
        | some ns => if ns.length < 64 then new (.lst ((srtI ns).map .int)) h else .stk
        | none => .stk)
      | none => .stk))
  | .ord, [.str [c]] => .ok (.int c) h
  | .min1, [v] => mnK mnI (seqOf h v) h
  | .max1, [v] => mnK mxI (seqOf h v) h
  | _, _ => .stk
def idxF (x : Val) : List Val → Nat → Option Nat
  | [], _ => none
  | v :: vs, i => if eqW v x = true then some i else idxF x vs (i + 1)
@[simp] def pmF (p : PM) (o : Val) (vs : List Val) (h : Hs) : R Val := match p, o, vs with
  | .append, .ref n, [v] => (match h[n]? with
    | some (.lst ws) => if ws.length < lim then .ok .non (h.set n (.lst (ws ++ [v]))) else .stk
    | _ => .stk)
  | .extend, .ref n, [.ref m] => (match h[n]?, h[m]? with
    | some (.lst ws), some (.lst us) => if ws.length + us.length ≤ lim then .ok .non (h.set n (.lst (ws ++ us))) else .stk
    | _, _ => .stk)
  | .extend, .ref n, [.tup us] => (match h[n]? with
    | some (.lst ws) => if ws.length + us.length ≤ lim then .ok .non (h.set n (.lst (ws ++ us))) else .stk
    | _ => .stk)
  | .pop, .ref n, [] => (match h[n]? with
    | some (.lst ws) => (match ws.getLast? with
      | some v => .ok v (h.set n (.lst ws.dropLast))
      | none => .stk)
    | _ => .stk)
  | .find, .str s, [.str u] => .ok (.int (Txt.find ⟨s.toArray⟩ ⟨u.toArray⟩)) h
  | .sindex, .str s, [.str u] => if 0 ≤ Txt.find ⟨s.toArray⟩ ⟨u.toArray⟩ then .ok (.int (Txt.find ⟨s.toArray⟩ ⟨u.toArray⟩)) h else .stk
  | .startswith, .str s, [.str u] => .ok (.bl (Txt.startswith ⟨s.toArray⟩ ⟨u.toArray⟩)) h
  | .split, .str s, [.str u] => if u.length ≠ 0 ∧ s.length + 2 ≤ lim ∧ u.all (· < 256) = true then new (.lst ((TL.spl u 0 [] s).map .str)) h else .stk
  | .strip, .str s, [] => if s.length ≤ lim then .ok (.str (Txt.strip ⟨s.toArray⟩).cps.toList) h else .stk
  | .stripC, .str s, [.str u] => if s.length ≤ lim then .ok (.str (Txt.stripChars ⟨s.toArray⟩ ⟨u.toArray⟩).cps.toList) h else .stk
  | .lower, .str s, [] => if s.length ≤ 5592405 then .ok (.str (Txt.lower ⟨s.toArray⟩).cps.toList) h else .stk
  | .upper, .str s, [] => if s.length ≤ 5592405 then .ok (.str (Txt.upper ⟨s.toArray⟩).cps.toList) h else .stk
  | .join, .str s, [.ref n] => (match seqOf h (.ref n) with
    | some ws => (match isStrs ws with
      | some ts => if (ts.map List.length).sum + ts.length * s.length ≤ lim then .ok (.str (TL.joinL s ts)) h else .stk
      | none => .stk)
    | none => .stk)
  | .index, .ref n, [x] => (match seqOf h (.ref n) with
    | some ws => if flat x = true ∧ ws.all flat = true then (ofO (idxF x ws 0) h).bind fun i h => .ok (.int i) h else .stk
    | none => .stk)
  | .get, .ref n, [x] => (match h[n]?, toKy x with
    | some (.dct kvs), some k => .ok ((dget kvs k).getD .non) h
    | _, _ => .stk)
  | .get2, .ref n, [x, d] => (match h[n]?, toKy x with
    | some (.dct kvs), some k => .ok ((dget kvs k).getD d) h
    | _, _ => .stk)
  | .dpop, .ref n, [x] => (match h[n]?, toKy x with
    | some (.dct kvs), some k => (match dget kvs k with
      | some v => .ok v (h.set n (.dct (ddel kvs k)))
      | none => .stk)
    | _, _ => .stk)
  | _, _, _ => .stk

/-- the receiver of a built-in method is of its type -/
@[simp] def tyOkB (h : Hs) (p : PM) (v : Val) : Bool := match p, v with
  | .append, .ref n => (match h[n]? with | some (.lst _) => true | _ => false)
  | .extend, .ref n => (match h[n]? with | some (.lst _) => true | _ => false)
  | .pop, .ref n => (match h[n]? with | some (.lst _) => true | _ => false)
  | .index, .ref n => (match h[n]? with | some (.lst _) => true | some (.frz _) => true | _ => false)
  | .get, .ref n => (match h[n]? with | some (.dct _) => true | _ => false)
  | .get2, .ref n => (match h[n]? with | some (.dct _) => true | _ => false)
  | .dpop, .ref n => (match h[n]? with | some (.dct _) => true | _ => false)
  | .append, _ => false
  | .extend, _ => false
  | .pop, _ => false
  | .index, _ => false
  | .get, _ => false
  | .get2, _ => false
  | .dpop, _ => false
  | _, .str _ => true
  | _, _ => false
/-- g.index(x), g a written tuple of texts -/
@[simp] def gixF (g x : Val) (h : Hs) : R Val := match g, x with
  | .tup vs, .str s => (match isStrs vs with
    | some ts => (match ts.findIdx? (fun t => decide (t = s)) with
      | some j => .ok (.int (j : Nat)) h
      | none => .stk)
    | none => .stk)
  | .tup vs, .int i => (match isInts vs with
    | some ns => if i ∈ ns then .ok (.int (ns.idxOf i : Nat)) h else .stk
    | none => .stk)
  | _, _ => .stk

/-- text.replace(y, z) .., the first pair first -/
def replT (x y z : List Nat) : List Nat := (Txt.replace ⟨x.toArray⟩ ⟨y.toArray⟩ ⟨z.toArray⟩).cps.toList
def replF : List (List Nat × List Nat) → List Nat → Option (List Nat)
  | [], x => some x
  | (y, z) :: r, x => if x.length + (x.length + 1) * z.length ≤ lim then replF r (replT x y z) else none
def catK (yz : List (List Nat × List Nat)) (va vo : Val) (h : Hs) : R Val := match vo with
  | .str t => (match replF yz t with
    | some u => binF .Add va (.str u) h
    | none => .stk)
  | _ => .stk
/-- {e}, {e:0wd} -/
def padS (w : Nat) (i : Int) : List Nat := List.replicate (w - (numS i).length) 48 ++ numS i
def fmtF (w : Nat) (v : Val) (h : Hs) : R Val := match v with
  | .str s => if w = 0 ∧ s.length ≤ lim then .ok (.str s) h else .stk
  | .int i => if bits i < 1920 ∧ (w = 0 ∨ 0 ≤ i) then .ok (.str (if w = 0 then numS i else padS w i)) h else .stk
  | _ => .stk
/-- f'..' -/
def jsF (vs : List Val) (h : Hs) : R Val := match isStrs vs with
  | some ts => if (ts.map List.length).sum ≤ lim then .ok (.str ts.flatten) h else .stk
  | none => .stk
/-- max(a, default=d) -/
def maxDF (a d : Val) (h : Hs) : R Val := match a, d with
  | .ref n, .int j => (match seqOf h (.ref n) with
    | some ws => (match isInts ws with
      | some ns => .ok (.int ((mxI ns).getD j)) h
      | none => .stk)
    | none => .stk)
  | _, _ => .stk
/-- isinstance -/
@[simp] def isiF (v : Val) (t : Ty) (h : Hs) : Option Bool := match v with
  | .non => some false
  | .bl _ => some (decide (t = .bool ∨ t = .int))
  | .int _ => some (decide (t = .int))
  | .str _ => some (decide (t = .str))
  | .tup _ => some (decide (t = .tuple))
  | .ref n => match h[n]? with
    | some (.lst _) => some (decide (t = .list))
    | some (.frz _) => some (decide (t = .list))
    | some (.dct _) => some false
    | _ => none

/-! ### the evaluator -/
structure Calls where
  f : Nat → List Val → Hs → R Val
  i : Nat → List Val → Hs → R Val
  meth : Nat → Nat → Option Nat
  init : Nat → Option Nat
  glob : Nat → Option Val
  fldok : Nat → Nat → Bool
@[simp] def wipeS (st : Sl) : List Nat → Sl
  | [] => st
  | v :: vs => (wipeS st vs).set v none
/-- what is walked: values; a list that must stand still -/
inductive Src where
  | vals (vs : List Val)
  | lst (n : Nat) (vs : List Val)
  | enu (n : Nat) (vs : List Val)
def Src.ok (h : Hs) : Src → Bool
  | .vals _ => true
  | .lst n vs => match h[n]? with
    | some (.lst ws) => Val.beqs ws vs
    | some (.frz ws) => Val.beqs ws vs
    | _ => false
  | .enu n vs => match h[n]? with
    | some (.lst ws) => Val.beqs ws vs
    | some (.frz ws) => Val.beqs ws vs
    | _ => false
def enumV : Nat → List Val → List Val
  | _, [] => []
  | i, v :: vs => .tup [.int i, v] :: enumV (i + 1) vs
@[simp] def Src.items : Src → List Val
  | .vals vs => vs
  | .lst _ vs => vs
  | .enu _ vs => enumV 0 vs
def rangeV (lo : Int) (c : Int) : Nat → List Val
  | 0 => []
  | n + 1 => .int lo :: rangeV (lo + c) c n
@[simp] def setTs : List Nat → List Val → Sl → Option Sl
  | [], [], st => some st
  | j :: js, v :: vs, st => setTs js vs (st.set j (some v))
  | _, _, _ => none
@[simp] def setT (t : Tg) (v : Val) (st : Sl) : Option Sl := match t with
  | .nm i => some (st.set i (some v))
  | .tup js => match v with
    | .tup vs => setTs js vs st
    | _ => none
def hlim : Int := 2 ^ 62
/-- a written dict's entry at a text -/
def ggL (kvs : List (List Nat × Int)) (d : Option Int) (s : List Nat) : Option Int := match kvs.lookup s with
  | some i => some i
  | none => d
def ggF (kvs : List (List Nat × Int)) (d : Option Int) (v : Val) (h : Hs) : R Val := match v with
  | .str s => ofO ((ggL kvs d s).map .int) h
  | _ => .stk
/-- list(range(a, b)) -/
def rlF (a b : Val) (h : Hs) : R Val := match a, b with
  | .int i, .int j => if -hlim ≤ i ∧ i < hlim ∧ -hlim ≤ j ∧ j < hlim ∧ (j - i).toNat ≤ lim then new (.lst (rangeV i 1 (j - i).toNat)) h else .stk
  | _, _ => .stk
/-- no exception may leave a block -/
def noX {α : Type} (r : R α) : R α := match r with
  | .ok a h => .ok a h
  | _ => .stk
@[simp] theorem noX_ok {α : Type} (a : α) (h : Hs) : noX (.ok a h) = .ok a h := rfl
@[simp] theorem noX_stk {α : Type} : noX (.stk : R α) = .stk := rfl
def compV (step : Val → Hs → R (Option Val)) (src : Src) (n : Nat) : List Val → Hs → R Unit
  | [], h => if src.ok h then .ok () h else .stk
  | v :: vs, h => if src.ok h then (noX (step v h)).bind fun o h1 => match o with
    | none => compV step src n vs h1
    | some y => match h1[n]? with
      | some (.lst acc) => if acc.length < lim then compV step src n vs (h1.set n (.lst (acc ++ [y]))) else .stk
      | _ => .stk
    else .stk
/-! what follows a value: named, so that nothing is looked at before its time -/
@[simp] def seq2 {α β γ : Type} (f : Hs → R β) (g : α → β → Hs → R γ) (a : α) (h : Hs) : R γ := (f h).bind (g a)
@[simp] def negF (x : Val) (h : Hs) : R Val := match x with
  | .int i => .ok (.int (-i)) h
  | _ => .stk
@[simp] def truK {β : Type} (f : Bool → Hs → R β) (x : Val) (h : Hs) : R β := (ofO (truF h x) h).bind f
@[simp] def truG (x : Val) (h : Hs) : R Bool := ofO (truF h x) h
@[simp] def notK (k : Bool) (h : Hs) : R Val := .ok (.bl (!k)) h
@[simp] def blK (k : Bool) (h : Hs) : R Val := .ok (.bl k) h
@[simp] def chainK (op2 : CmpOp) (fc : Hs → R Val) (y : Val) (k : Val) (h : Hs) : R Val := match k with
  | .bl true => (fc h).bind (cmpF op2 y)
  | .bl false => .ok (.bl false) h
  | _ => .stk
@[simp] def chainF (op op2 : CmpOp) (fc : Hs → R Val) (x y : Val) (h : Hs) : R Val := (cmpF op x y h).bind (chainK op2 fc y)
@[simp] def chain3K (op2 op3 : CmpOp) (fc fd : Hs → R Val) (y : Val) (k : Val) (h : Hs) : R Val := match k with
  | .bl true => (fc h).bind (chainF op2 op3 fd y)
  | .bl false => .ok (.bl false) h
  | _ => .stk
@[simp] def chain3F (op op2 op3 : CmpOp) (fc fd : Hs → R Val) (x y : Val) (h : Hs) : R Val := (cmpF op x y h).bind (chain3K op2 op3 fc fd y)
@[simp] def andB (fb : Hs → R Val) (x : Val) (k : Bool) (h : Hs) : R Val := if k = true then fb h else .ok x h
@[simp] def orB (fb : Hs → R Val) (x : Val) (k : Bool) (h : Hs) : R Val := if k = true then .ok x h else fb h
@[simp] def andK (fb : Hs → R Val) (x : Val) (h : Hs) : R Val := (ofO (truF h x) h).bind (andB fb x)
@[simp] def orK (fb : Hs → R Val) (x : Val) (h : Hs) : R Val := (ofO (truF h x) h).bind (orB fb x)
@[simp] def ifB {α : Type} (fa fb : Hs → R α) (k : Bool) (h : Hs) : R α := if k = true then fa h else fb h
@[simp] def tupF (vs : List Val) (h : Hs) : R Val := if vs.length ≤ lim then .ok (.tup vs) h else .stk
@[simp] def lstF (vs : List Val) (h : Hs) : R Val := if vs.length ≤ lim then new (.lst vs) h else .stk
@[simp] def dicF (p : Nat) (vs : List Val) (h1 : Hs) : R Val := match h1[p]?, pairsOf vs with
  | some (.dct []), some kvs => if kvs.length ≤ 15 then .ok (.ref p) (h1.set p (.dct (dmerge kvs))) else .stk
  | _, _ => .stk
@[simp] def newK (p : Nat) (x : Val) (h2 : Hs) : R Val := match x with
  | .non => .ok (.ref p) h2
  | _ => .stk
@[simp] def newF (C : Calls) (c : Nat) (vs : List Val) (h : Hs) : R Val := match C.init c with
  | some i => (C.i i (.ref h.length :: vs) (h ++ [.ins c []])).bind (newK h.length)
  | none => .stk
@[simp] def methK (C : Calls) (i n : Nat) (vs : List Val) (h : Hs) : R Val := C.f i (.ref n :: vs) h
@[simp] def methF (C : Calls) (m : Nat) (fes : Hs → R (List Val)) (x : Val) (h : Hs) : R Val := match x with
  | .ref n => (match h[n]? with
    | some (.ins c fs) => (match C.meth c m with
      | some i => if (fget fs m).isNone then (fes h).bind (methK C i n) else .stk
      | none => .stk)
    | _ => .stk)
  | _ => .stk
@[simp] def pmG (p : PM) (fes : Hs → R (List Val)) (x : Val) (h : Hs) : R Val := if tyOkB h p x = true then (fes h).bind (pmF p x) else .stk
@[simp] def fldG (f : Nat) (x : Val) (h : Hs) : R Val := fldF x f h
@[simp] def slK (fh : Hs → R (Option Int)) (x : Val) (l : Option Int) (h : Hs) : R Val := (fh h).bind (slF x l)
@[simp] def slG (fl fh : Hs → R (Option Int)) (x : Val) (h : Hs) : R Val := (fl h).bind (slK fh x)
@[simp] def someK (y : Val) (h : Hs) : R (Option Val) := .ok (some y) h
@[simp] def stepK (fe : Hs → R Val) (k : Bool) (h : Hs) : R (Option Val) := if k = true then (fe h).bind someK else .ok none h
@[simp] def stepG (tg : Tg) (fc : Sl → Hs → R Bool) (fe : Sl → Hs → R Val) (st : Sl) (v : Val) (h : Hs) : R (Option Val) := match setT tg v st with
  | some st1 => (fc st1 h).bind (stepK (fe st1))
  | none => .stk
@[simp] def lcK (p : Nat) (_ : Unit) (h2 : Hs) : R Val := .ok (.ref p) h2
@[simp] def lcG (step : Val → Hs → R (Option Val)) (src : Src) (h : Hs) : R Val := (compV step src h.length src.items (h ++ [.lst []])).bind (lcK h.length)
@[simp] def gixG (C : Calls) (k : Nat) (x : Val) (h : Hs) : R Val := match C.glob k with
  | some g => gixF g x h
  | none => .stk
@[simp] def isiG (t : Ty) (x : Val) (h : Hs) : R Val := (ofO (isiF x t h) h).bind blK
@[simp] def consK (x : Val) (xs : List Val) (h : Hs) : R (List Val) := .ok (x :: xs) h
@[simp] def consG (f : Hs → R (List Val)) (x : Val) (h : Hs) : R (List Val) := (f h).bind (consK x)
@[simp] def partF (x : Val) (h : Hs) : R (Option Int) := match x with
  | .int i => .ok (some i) h
  | _ => .stk
@[simp] def srcF (x : Val) (h : Hs) : R Src := match x with
  | .tup vs => .ok (.vals vs) h
  | .str s => .ok (.vals (s.map fun c => .str [c])) h
  | .ref n => (match h[n]? with
    | some (.lst vs) => .ok (.lst n vs) h
    | some (.frz vs) => .ok (.lst n vs) h
    | _ => .stk)
  | _ => .stk
@[simp] def rng1F (x : Val) (h : Hs) : R Src := match x with
  | .int i => if -hlim ≤ i ∧ i < hlim then .ok (.vals (rangeV 0 1 i.toNat)) h else .stk
  | _ => .stk
@[simp] def rng2F (x y : Val) (h : Hs) : R Src := match x, y with
  | .int i, .int j => if -hlim ≤ i ∧ i < hlim ∧ -hlim ≤ j ∧ j < hlim then .ok (.vals (rangeV i 1 (j - i).toNat)) h else .stk
  | _, _ => .stk
@[simp] def rng3F (x y z : Val) (h : Hs) : R Src := match x, y, z with
  | .int i, .int j, .int (-1) => if -hlim ≤ i ∧ i < hlim ∧ -hlim ≤ j ∧ j < hlim then .ok (.vals (rangeV i (-1) (i - j).toNat)) h else .stk
  | _, _, _ => .stk
@[simp] def rng3K (fc : Hs → R Val) (x y : Val) (h : Hs) : R Src := (fc h).bind (rng3F x y)
@[simp] def enuF (x : Val) (h : Hs) : R Src := match x with
  | .ref n => (match h[n]? with
    | some (.lst vs) => .ok (.enu n vs) h
    | some (.frz vs) => .ok (.enu n vs) h
    | _ => .stk)
  | .tup vs => .ok (.vals (enumV 0 vs)) h
  | _ => .stk
@[simp] def varF (o : Option (Option Val)) (h : Hs) : R Val := match o with
  | some (some v) => .ok v h
  | _ => .stk
mutual
def ev (C : Calls) : E → Sl → Hs → R Val
  | .var i, st, h => varF st[i]? h
  | .non, _, h => .ok .non h
  | .tt b, _, h => .ok (.bl b) h
  | .int i, _, h => .ok (.int i) h
  | .str s, _, h => .ok (.str s) h
  | .glob k, _, h => ofO (C.glob k) h
  | .bin op a b, st, h => (ev C a st h).bind (seq2 (ev C b st) (binF op))
  | .neg a, st, h => (ev C a st h).bind negF
  | .not a, st, h => (ev C a st h).bind (truK notK)
  | .cmp op a b, st, h => (ev C a st h).bind (seq2 (ev C b st) (cmpF op))
  | .chain op op2 a b c, st, h => (ev C a st h).bind (seq2 (ev C b st) (chainF op op2 (ev C c st)))
  | .chain3 op op2 op3 a b c d, st, h => (ev C a st h).bind (seq2 (ev C b st) (chain3F op op2 op3 (ev C c st) (ev C d st)))
  | .and a b, st, h => (ev C a st h).bind (andK (ev C b st))
  | .or a b, st, h => (ev C a st h).bind (orK (ev C b st))
  | .ife c a b, st, h => (ev C c st h).bind (truK (ifB (ev C a st) (ev C b st)))
  | .tup es, st, h => (evs C es st h).bind tupF
  | .lst es, st, h => (evs C es st h).bind lstF
  | .dic es, st, h => (evs C es st (h ++ [.dct []])).bind (dicF h.length)
  | .call f es, st, h => (evs C es st h).bind (C.f f)
  | .new c es, st, h => (evs C es st h).bind (newF C c)
  | .meth o m es, st, h => (ev C o st h).bind (methF C m (evs C es st))
  | .prim p es, st, h => (evs C es st h).bind (primF p)
  | .pm p o es, st, h => (ev C o st h).bind (pmG p (evs C es st))
  | .fld o f, st, h => (ev C o st h).bind (fldG f)
  | .ix a b, st, h => (ev C a st h).bind (seq2 (ev C b st) ixF)
  | .sl a lo hi, st, h => (ev C a st h).bind (slG (evo C lo st) (evo C hi st))
  | .lc elt tg it cond own, st, h => (evi C it st h).bind (lcG (stepG tg (etc C cond) (ev C elt) (wipeS st (own.map (·.2)))))
  | .gix k e, st, h => (ev C e st h).bind (gixG C k)
  | .isi e t, st, h => (ev C e st h).bind (isiG t)
  | .catR a o yz, st, h => (ev C a st h).bind (seq2 (ev C o st) (catK yz))
  | .fmt e w, st, h => (ev C e st h).bind (fmtF w)
  | .js es, st, h => (noX (evs C es st h)).bind jsF
  | .maxD a d, st, h => (ev C a st h).bind (seq2 (ev C d st) maxDF)
  | .rlst a b, st, h => (ev C a st h).bind (seq2 (ev C b st) rlF)
  | .gdct _ kvs d e, st, h => (ev C e st h).bind (ggF kvs d)
def evs (C : Calls) : Es → Sl → Hs → R (List Val)
  | .nil, _, h => .ok [] h
  | .cons e es, st, h => (ev C e st h).bind (consG (evs C es st))
def evo (C : Calls) : Eo → Sl → Hs → R (Option Int)
  | .none, _, h => .ok none h
  | .some e, st, h => (ev C e st h).bind partF
def etc (C : Calls) : Eo → Sl → Hs → R Bool
  | .none, _, h => .ok true h
  | .some e, st, h => (ev C e st h).bind truG
def evi (C : Calls) : I → Sl → Hs → R Src
  | .val e, st, h => (ev C e st h).bind srcF
  | .rng1 a, st, h => (ev C a st h).bind rng1F
  | .rng2 a b, st, h => (ev C a st h).bind (seq2 (ev C b st) rng2F)
  | .rng3 a b c, st, h => (ev C a st h).bind (seq2 (ev C b st) (rng3K (ev C c st)))
  | .enu e, st, h => (ev C e st h).bind enuF
end
section
variable (C : Calls) (st : Sl) (h : Hs)
@[simp] theorem q_ev_var (i : Nat) : ev C (E.var i) st h = varF st[i]? h := rfl
@[simp] theorem q_ev_non : ev C (E.non) st h = .ok .non h := rfl
@[simp] theorem q_ev_tt (b : Bool) : ev C (E.tt b) st h = .ok (.bl b) h := rfl
@[simp] theorem q_ev_int (i : Int) : ev C (E.int i) st h = .ok (.int i) h := rfl
@[simp] theorem q_ev_str (s : List Nat) : ev C (E.str s) st h = .ok (.str s) h := rfl
@[simp] theorem q_ev_glob (k : Nat) : ev C (E.glob k) st h = ofO (C.glob k) h := rfl
@[simp] theorem q_ev_bin (op : Operator) (a : E) (b : E) : ev C (E.bin op a b) st h = (ev C a st h).bind (seq2 (ev C b st) (binF op)) := rfl
@[simp] theorem q_ev_neg (a : E) : ev C (E.neg a) st h = (ev C a st h).bind negF := rfl
@[simp] theorem q_ev_not (a : E) : ev C (E.not a) st h = (ev C a st h).bind (truK notK) := rfl
@[simp] theorem q_ev_cmp (op : CmpOp) (a : E) (b : E) : ev C (E.cmp op a b) st h = (ev C a st h).bind (seq2 (ev C b st) (cmpF op)) := rfl
@[simp] theorem q_ev_chain (op : CmpOp) (op2 : CmpOp) (a : E) (b : E) (c : E) : ev C (E.chain op op2 a b c) st h = (ev C a st h).bind (seq2 (ev C b st) (chainF op op2 (ev C c st))) := rfl
@[simp] theorem q_ev_chain3 (op op2 op3 : CmpOp) (a b c d : E) : ev C (E.chain3 op op2 op3 a b c d) st h = (ev C a st h).bind (seq2 (ev C b st) (chain3F op op2 op3 (ev C c st) (ev C d st))) := rfl
@[simp] theorem q_ev_and (a : E) (b : E) : ev C (E.and a b) st h = (ev C a st h).bind (andK (ev C b st)) := rfl
@[simp] theorem q_ev_or (a : E) (b : E) : ev C (E.or a b) st h = (ev C a st h).bind (orK (ev C b st)) := rfl
@[simp] theorem q_ev_ife (c : E) (a : E) (b : E) : ev C (E.ife c a b) st h = (ev C c st h).bind (truK (ifB (ev C a st) (ev C b st))) := rfl
@[simp] theorem q_ev_tup (es : Es) : ev C (E.tup es) st h = (evs C es st h).bind tupF := rfl
@[simp] theorem q_ev_lst (es : Es) : ev C (E.lst es) st h = (evs C es st h).bind lstF := rfl
@[simp] theorem q_ev_dic (es : Es) : ev C (E.dic es) st h = (evs C es st (h ++ [.dct []])).bind (dicF h.length) := rfl
@[simp] theorem q_ev_call (f : Nat) (es : Es) : ev C (E.call f es) st h = (evs C es st h).bind (C.f f) := rfl
@[simp] theorem q_ev_new (c : Nat) (es : Es) : ev C (E.new c es) st h = (evs C es st h).bind (newF C c) := rfl
@[simp] theorem q_ev_meth (o : E) (m : Nat) (es : Es) : ev C (E.meth o m es) st h = (ev C o st h).bind (methF C m (evs C es st)) := rfl
@[simp] theorem q_ev_prim (p : Prim) (es : Es) : ev C (E.prim p es) st h = (evs C es st h).bind (primF p) := rfl
@[simp] theorem q_ev_pm (p : PM) (o : E) (es : Es) : ev C (E.pm p o es) st h = (ev C o st h).bind (pmG p (evs C es st)) := rfl
@[simp] theorem q_ev_fld (o : E) (f : Nat) : ev C (E.fld o f) st h = (ev C o st h).bind (fldG f) := rfl
@[simp] theorem q_ev_ix (a : E) (b : E) : ev C (E.ix a b) st h = (ev C a st h).bind (seq2 (ev C b st) ixF) := rfl
@[simp] theorem q_ev_sl (a : E) (lo : Eo) (hi : Eo) : ev C (E.sl a lo hi) st h = (ev C a st h).bind (slG (evo C lo st) (evo C hi st)) := rfl
@[simp] theorem q_ev_lc (elt : E) (tg : Tg) (it : I) (cond : Eo) (own : List (Str × Nat)) : ev C (E.lc elt tg it cond own) st h = (evi C it st h).bind (lcG (stepG tg (etc C cond) (ev C elt) (wipeS st (own.map (·.2))))) := rfl
@[simp] theorem q_ev_gix (k : Nat) (e : E) : ev C (E.gix k e) st h = (ev C e st h).bind (gixG C k) := rfl
@[simp] theorem q_ev_catR (a o : E) (yz : List (List Nat × List Nat)) : ev C (E.catR a o yz) st h = (ev C a st h).bind (seq2 (ev C o st) (catK yz)) := rfl
@[simp] theorem q_ev_fmt (e : E) (w : Nat) : ev C (E.fmt e w) st h = (ev C e st h).bind (fmtF w) := rfl
@[simp] theorem q_ev_js (es : Es) : ev C (E.js es) st h = (noX (evs C es st h)).bind jsF := rfl
@[simp] theorem q_ev_maxD (a d : E) : ev C (E.maxD a d) st h = (ev C a st h).bind (seq2 (ev C d st) maxDF) := rfl
@[simp] theorem q_ev_rlst (a b : E) : ev C (E.rlst a b) st h = (ev C a st h).bind (seq2 (ev C b st) rlF) := rfl
@[simp] theorem q_ev_gdct (x : Str) (kvs : List (List Nat × Int)) (d : Option Int) (e : E) : ev C (E.gdct x kvs d e) st h = (ev C e st h).bind (ggF kvs d) := rfl
@[simp] theorem q_ev_isi (e : E) (t : Ty) : ev C (E.isi e t) st h = (ev C e st h).bind (isiG t) := rfl
@[simp] theorem q_evs_nil : evs C (Es.nil) st h = .ok [] h := rfl
@[simp] theorem q_evs_cons (e : E) (es : Es) : evs C (Es.cons e es) st h = (ev C e st h).bind (consG (evs C es st)) := rfl
@[simp] theorem q_evo_none : evo C (Eo.none) st h = .ok none h := rfl
@[simp] theorem q_evo_some (e : E) : evo C (Eo.some e) st h = (ev C e st h).bind partF := rfl
@[simp] theorem q_etc_none : etc C (Eo.none) st h = .ok true h := rfl
@[simp] theorem q_etc_some (e : E) : etc C (Eo.some e) st h = (ev C e st h).bind truG := rfl
@[simp] theorem q_evi_val (e : E) : evi C (I.val e) st h = (ev C e st h).bind srcF := rfl
@[simp] theorem q_evi_rng1 (a : E) : evi C (I.rng1 a) st h = (ev C a st h).bind rng1F := rfl
@[simp] theorem q_evi_rng2 (a : E) (b : E) : evi C (I.rng2 a b) st h = (ev C a st h).bind (seq2 (ev C b st) rng2F) := rfl
@[simp] theorem q_evi_rng3 (a : E) (b : E) (c : E) : evi C (I.rng3 a b c) st h = (ev C a st h).bind (seq2 (ev C b st) (rng3K (ev C c st))) := rfl
@[simp] theorem q_evi_enu (e : E) : evi C (I.enu e) st h = (ev C e st h).bind enuF := rfl
end
/-- a test -/
@[simp] def et (C : Calls) (e : E) (st : Sl) (h : Hs) : R Bool := (ev C e st h).bind truG
theorem R.bind_assoc {α β γ : Type} (r : R α) (f : α → Hs → R β) (g : β → Hs → R γ) : (r.bind f).bind g = r.bind fun a h => (f a h).bind g := by cases r <;> rfl
theorem bind_ext {α β : Type} {r : R α} {f g : α → Hs → R β} (e : ∀ a h, f a h = g a h) : r.bind f = r.bind g := by cases r <;> first | exact e _ _ | rfl
@[simp] def tNotK (k : Bool) (h : Hs) : R Bool := .ok (!k) h
@[simp] def tAndK (fb : Hs → R Bool) (k : Bool) (h : Hs) : R Bool := if k = true then fb h else .ok false h
@[simp] def tOrK (fb : Hs → R Bool) (k : Bool) (h : Hs) : R Bool := if k = true then .ok true h else fb h
@[simp] def tBl (k : Val) (h : Hs) : R Bool := match k with
  | .bl k => .ok k h
  | _ => .stk
@[simp] def tChainK (op2 : CmpOp) (fc : Hs → R Val) (y : Val) (k : Val) (h : Hs) : R Bool := match k with
  | .bl true => (fc h).bind fun z h => (cmpF op2 y z h).bind tBl
  | .bl false => .ok false h
  | _ => .stk
section
variable (C : Calls) (st : Sl) (h : Hs)
theorem et_not (a : E) : et C (.not a) st h = (et C a st h).bind tNotK := by
  show ((ev C a st h).bind (truK notK)).bind _ = ((ev C a st h).bind _).bind _
  rw [R.bind_assoc, R.bind_assoc]
  refine bind_ext fun x h1 => ?_
  show ((ofO (truF h1 x) h1).bind notK).bind truG = (ofO (truF h1 x) h1).bind tNotK
  cases truF h1 x <;> rfl
theorem et_and (a b : E) : et C (.and a b) st h = (et C a st h).bind (tAndK (et C b st)) := by
  show ((ev C a st h).bind (andK (ev C b st))).bind _ = ((ev C a st h).bind _).bind _
  rw [R.bind_assoc, R.bind_assoc]
  refine bind_ext fun x h1 => ?_
  show ((ofO (truF h1 x) h1).bind (andB (ev C b st) x)).bind truG = (ofO (truF h1 x) h1).bind _
  cases q : truF h1 x with
  | none => rfl
  | some k =>
    cases k with
    | true => rfl
    | false =>
      show ofO (truF h1 x) h1 = _
      rw [q]
      rfl
theorem et_or (a b : E) : et C (.or a b) st h = (et C a st h).bind (tOrK (et C b st)) := by
  show ((ev C a st h).bind (orK (ev C b st))).bind _ = ((ev C a st h).bind _).bind _
  rw [R.bind_assoc, R.bind_assoc]
  refine bind_ext fun x h1 => ?_
  show ((ofO (truF h1 x) h1).bind (orB (ev C b st) x)).bind truG = (ofO (truF h1 x) h1).bind _
  cases q : truF h1 x with
  | none => rfl
  | some k =>
    cases k with
    | false => rfl
    | true =>
      show ofO (truF h1 x) h1 = _
      rw [q]
      rfl
theorem ev_ife (c a b : E) : ev C (.ife c a b) st h = (et C c st h).bind (ifB (ev C a st) (ev C b st)) := by
  show (ev C c st h).bind _ = ((ev C c st h).bind _).bind _
  rw [R.bind_assoc]
  exact bind_ext fun x h1 => rfl
theorem et_ife (c a b : E) : et C (.ife c a b) st h = (et C c st h).bind (ifB (et C a st) (et C b st)) := by
  show (ev C (.ife c a b) st h).bind _ = _
  rw [ev_ife, R.bind_assoc]
  refine bind_ext fun k h1 => ?_
  cases k <;> rfl
theorem cmp_bl (op : CmpOp) (x y : Val) : (cmpF op x y h).bind truG = (cmpF op x y h).bind tBl := by
  have key : ∀ (v : Val) (h1 : Hs), cmpF op x y h = .ok v h1 → ∃ k, v = .bl k := by
    intro v h1 e
    unfold cmpF at e
    repeat' split at e
    all_goals first
      | (cases e; exact ⟨_, rfl⟩)
      | (cases e; done)
      | (revert e
         generalize ofO _ h = r
         intro e
         cases r <;> first
           | (cases e; exact ⟨_, rfl⟩)
           | (cases e; done))
  cases r : cmpF op x y h with
  | ok v h1 =>
    obtain ⟨k, rfl⟩ := key v h1 r
    rfl
  | exc _ _ _ => rfl
  | stk => rfl
@[simp] def tCmpF (op : CmpOp) (x y : Val) (h : Hs) : R Bool := (cmpF op x y h).bind tBl
theorem et_cmp (op : CmpOp) (a b : E) : et C (.cmp op a b) st h = (ev C a st h).bind (seq2 (ev C b st) (tCmpF op)) := by
  show ((ev C a st h).bind (seq2 (ev C b st) (cmpF op))).bind _ = _
  rw [R.bind_assoc]
  refine bind_ext fun x h1 => ?_
  show ((ev C b st h1).bind (cmpF op x)).bind _ = (ev C b st h1).bind _
  rw [R.bind_assoc]
  exact bind_ext fun y h2 => cmp_bl h2 op x y
@[simp] def tChainF (op op2 : CmpOp) (fc : Hs → R Val) (x y : Val) (h : Hs) : R Bool := (cmpF op x y h).bind (tChainK op2 fc y)
theorem et_chain (op op2 : CmpOp) (a b c : E) : et C (.chain op op2 a b c) st h = (ev C a st h).bind (seq2 (ev C b st) (tChainF op op2 (ev C c st))) := by
  show ((ev C a st h).bind (seq2 (ev C b st) (chainF op op2 (ev C c st)))).bind _ = _
  rw [R.bind_assoc]
  refine bind_ext fun x h1 => ?_
  show ((ev C b st h1).bind (chainF op op2 (ev C c st) x)).bind _ = (ev C b st h1).bind _
  rw [R.bind_assoc]
  refine bind_ext fun y h2 => ?_
  show ((cmpF op x y h2).bind (chainK op2 (ev C c st) y)).bind _ = (cmpF op x y h2).bind _
  rw [R.bind_assoc]
  refine bind_ext fun k h3 => ?_
  cases k with
  | bl k =>
    cases k with
    | false => rfl
    | true =>
      show ((ev C c st h3).bind (cmpF op2 y)).bind _ = (ev C c st h3).bind _
      rw [R.bind_assoc]
      exact bind_ext fun z h4 => cmp_bl h4 op2 y z
  | _ => rfl
@[simp] def tChain3K (op2 op3 : CmpOp) (fc fd : Hs → R Val) (y : Val) (k : Val) (h : Hs) : R Bool := match k with
  | .bl true => (fc h).bind (tChainF op2 op3 fd y)
  | .bl false => .ok false h
  | _ => .stk
@[simp] def tChain3F (op op2 op3 : CmpOp) (fc fd : Hs → R Val) (x y : Val) (h : Hs) : R Bool := (cmpF op x y h).bind (tChain3K op2 op3 fc fd y)
theorem chainF_bl (op op2 : CmpOp) (fc : Hs → R Val) (x y : Val) (h : Hs) : (chainF op op2 fc x y h).bind truG = tChainF op op2 fc x y h := by
  show ((cmpF op x y h).bind (chainK op2 fc y)).bind _ = (cmpF op x y h).bind _
  rw [R.bind_assoc]
  refine bind_ext fun k h3 => ?_
  cases k with
  | bl k =>
    cases k with
    | false => rfl
    | true =>
      show ((fc h3).bind (cmpF op2 y)).bind _ = (fc h3).bind _
      rw [R.bind_assoc]
      exact bind_ext fun z h4 => cmp_bl h4 op2 y z
  | _ => rfl
theorem et_chain3 (op op2 op3 : CmpOp) (a b c d : E) : et C (.chain3 op op2 op3 a b c d) st h = (ev C a st h).bind (seq2 (ev C b st) (tChain3F op op2 op3 (ev C c st) (ev C d st))) := by
  show ((ev C a st h).bind (seq2 (ev C b st) (chain3F op op2 op3 (ev C c st) (ev C d st)))).bind _ = _
  rw [R.bind_assoc]
  refine bind_ext fun x h1 => ?_
  show ((ev C b st h1).bind (chain3F op op2 op3 (ev C c st) (ev C d st) x)).bind _ = (ev C b st h1).bind _
  rw [R.bind_assoc]
  refine bind_ext fun y h2 => ?_
  show ((cmpF op x y h2).bind (chain3K op2 op3 (ev C c st) (ev C d st) y)).bind _ = (cmpF op x y h2).bind _
  rw [R.bind_assoc]
  refine bind_ext fun k h3 => ?_
  cases k with
  | bl k =>
    cases k with
    | false => rfl
    | true =>
      show ((ev C c st h3).bind (chainF op2 op3 (ev C d st) y)).bind _ = (ev C c st h3).bind _
      rw [R.bind_assoc]
      exact bind_ext fun z h4 => chainF_bl op2 op3 _ y z h4
  | _ => rfl
theorem etc_some (e : E) : etc C (.some e) st h = et C e st h := rfl
end
/-- a result as a statement's end -/
def R.st {α : Type} (r : R α) (f : α → Hs → O) : O := match r with
  | .ok a h => f a h
  | .exc c vs h => .exc c vs h
  | .stk => .stk
@[simp] theorem R.st_ok {α : Type} (a : α) (h : Hs) (f : α → Hs → O) : (R.ok a h).st f = f a h := rfl
@[simp] theorem R.st_exc {α : Type} (c : Nat) (vs : List Val) (h : Hs) (f : α → Hs → O) : (R.exc c vs h : R α).st f = .exc c vs h := rfl
@[simp] theorem R.st_stk {α : Type} (f : α → Hs → O) : (R.stk : R α).st f = .stk := rfl
def O.then (o : O) (f : Sl → Hs → O) : O := match o with
  | .nx st h => f st h
  | o => o
@[simp] theorem O.then_nx (st : Sl) (h : Hs) (f : Sl → Hs → O) : (O.nx st h).then f = f st h := rfl
@[simp] theorem O.then_rt (v : Val) (h : Hs) (f : Sl → Hs → O) : (O.rt v h).then f = .rt v h := rfl
@[simp] theorem O.then_bk (st : Sl) (h : Hs) (f : Sl → Hs → O) : (O.bk st h).then f = .bk st h := rfl
@[simp] theorem O.then_ct (st : Sl) (h : Hs) (f : Sl → Hs → O) : (O.ct st h).then f = .ct st h := rfl
@[simp] theorem O.then_exc (c : Nat) (vs : List Val) (h : Hs) (f : Sl → Hs → O) : (O.exc c vs h).then f = .exc c vs h := rfl
@[simp] theorem O.then_stk (f : Sl → Hs → O) : O.stk.then f = .stk := rfl
def nxO (o : Option Hs) (st : Sl) : O := match o with
  | some h => .nx st h
  | none => .stk
@[simp] theorem nxO_some (h : Hs) (st : Sl) : nxO (some h) st = .nx st h := rfl
@[simp] theorem nxO_none (st : Sl) : nxO none st = .stk := rfl
def forV (step : Val → Sl → Hs → O) (src : Src) : List Val → Sl → Hs → O
  | [], st, h => if src.ok h then .nx st h else .stk
  | v :: vs, st, h => if src.ok h then (match step v st h with
    | .nx st h => forV step src vs st h
    | .ct st h => forV step src vs st h
    | .bk st h => .nx st h
    | o => o) else .stk
def whV (test : Sl → Hs → R Bool) (body : Sl → Hs → O) : Nat → Sl → Hs → O
  | 0, _, _ => .stk
  | n + 1, st, h => (test st h).st fun k h => if k = true then (match body st h with
    | .nx st h => whV test body n st h
    | .ct st h => whV test body n st h
    | .bk st h => .nx st h
    | o => o) else .nx st h
def fuel : Nat := 1000000
@[simp] def exprK (st : Sl) (_ : Val) (h : Hs) : O := .nx st h
@[simp] def asgK (t : Tg) (st : Sl) (v : Val) (h : Hs) : O := match setT t v st with
  | some st => .nx st h
  | none => .stk
@[simp] def fldS2 (C : Calls) (f : Nat) (st : Sl) (v x : Val) (h : Hs) : O := nxO (setFld C.fldok x f v h) st
@[simp] def fldS1 (C : Calls) (f : Nat) (fo : Hs → R Val) (st : Sl) (v : Val) (h : Hs) : O := (fo h).st (fldS2 C f st v)
@[simp] def subS3 (st : Sl) (v x y : Val) (h : Hs) : O := nxO (setF x y v h) st
@[simp] def subS2 (fi : Hs → R Val) (st : Sl) (v x : Val) (h : Hs) : O := (fi h).st (subS3 st v x)
@[simp] def subS1 (fo fi : Hs → R Val) (st : Sl) (v : Val) (h : Hs) : O := (fo h).st (subS2 fi st v)
@[simp] def augK2 (i : Nat) (st : Sl) (z : Val) (h : Hs) : O := .nx (st.set i (some z)) h
@[simp] def augK (i : Nat) (op : Operator) (st : Sl) (x y : Val) (h : Hs) : O := (ipF op x y h).st (augK2 i st)
@[simp] def augG (i : Nat) (op : Operator) (fe : Hs → R Val) (st : Sl) (o : Option (Option Val)) (h : Hs) : O := match o with
  | some (some x) => (fe h).st (augK i op st x)
  | _ => .stk
@[simp] def afS4 (C : Calls) (f : Nat) (st : Sl) (x : Val) (h0 : Hs) (z : Val) (h : Hs) : O := if clsF x h = clsF x h0 then nxO (setFld C.fldok x f z h) st else .stk
@[simp] def afS3 (C : Calls) (f : Nat) (op : Operator) (st : Sl) (x : Val) (h0 : Hs) (a y : Val) (h : Hs) : O := (ipF op a y h).st (afS4 C f st x h0)
@[simp] def afS2 (C : Calls) (f : Nat) (op : Operator) (fe : Hs → R Val) (st : Sl) (x : Val) (h0 : Hs) (a : Val) (h : Hs) : O := (fe h).st (afS3 C f op st x h0 a)
@[simp] def afS1 (C : Calls) (f : Nat) (op : Operator) (fe : Hs → R Val) (st : Sl) (x : Val) (h0 : Hs) : O := (fldF x f h0).st (afS2 C f op fe st x h0)
@[simp] def asS5 (st : Sl) (x k z : Val) (h : Hs) : O := nxO (setF x k z h) st
@[simp] def asS4 (op : Operator) (st : Sl) (x k a y : Val) (h : Hs) : O := (ipF op a y h).st (asS5 st x k)
@[simp] def asS3 (op : Operator) (fe : Hs → R Val) (st : Sl) (x k a : Val) (h : Hs) : O := (fe h).st (asS4 op st x k a)
@[simp] def asS2 (op : Operator) (fe : Hs → R Val) (st : Sl) (x k : Val) (h : Hs) : O := (gtF x k h).st (asS3 op fe st x k)
@[simp] def asS1 (op : Operator) (fi fe : Hs → R Val) (st : Sl) (x : Val) (h : Hs) : O := (fi h).st (asS2 op fe st x)
@[simp] def delS2 (st : Sl) (x y : Val) (h : Hs) : O := nxO (delF x y h) st
@[simp] def delS1 (fi : Hs → R Val) (st : Sl) (x : Val) (h : Hs) : O := (fi h).st (delS2 st x)
@[simp] def ifS (fa fb : Hs → O) (k : Bool) (h : Hs) : O := if k = true then fa h else fb h
def forK (t : Tg) (fb : Sl → Hs → O) (v : Val) (st : Sl) (h : Hs) : O := match setT t v st with
  | some st => fb st h
  | none => .stk
@[simp] def forS (t : Tg) (fb : Sl → Hs → O) (st : Sl) (src : Src) (h : Hs) : O := forV (forK t fb) src src.items st h
@[simp] def retK (v : Val) (h : Hs) : O := .rt v h
/-- raise C(..) -/
@[simp] def raiK (c : Nat) (vs : List Val) (h : Hs) : O := if c < 2 ∧ vs.length = (xFlds c).length then .exc c vs h else .stk
/-- except HeadFault as e: return (e.word, e.at) -/
@[simp] def try2K (o : O) : O := match o with
  | .exc c vs h => (match c, vs with
    | 0, [a, b] => .rt (.tup [a, b]) h
    | _, _ => .stk)
  | o => o
mutual
def ex (C : Calls) : S → Sl → Hs → O
  | .expr e, st, h => (ev C e st h).st (exprK st)
  | .asg t e, st, h => (ev C e st h).st (asgK t st)
  | .fld o f e, st, h => (ev C e st h).st (fldS1 C f (ev C o st) st)
  | .sub o i e, st, h => (ev C e st h).st (subS1 (ev C o st) (ev C i st) st)
  | .aug i op e, st, h => augG i op (ev C e st) st st[i]? h
  | .augF o f op e, st, h => (ev C o st h).st (afS1 C f op (ev C e st) st)
  | .augS o i op e, st, h => (ev C o st h).st (asS1 op (ev C i st) (ev C e st) st)
  | .del o i, st, h => (ev C o st h).st (delS1 (ev C i st) st)
  | .ifs c a b, st, h => (et C c st h).st (ifS (exs C a st) (exs C b st))
  | .fors t it body, st, h => (evi C it st h).st (forS t (exs C body) st)
  | .whil c body, st, h => whV (et C c) (exs C body) fuel st h
  | .ret e, st, h => (ev C e st h).st retK
  | .retN, _, h => .rt .non h
  | .brk, st, h => .bk st h
  | .cont, st, h => .ct st h
  | .pass, st, h => .nx st h
  | .nev, _, _ => .stk
  | .rais c es, st, h => (evs C es st h).st (raiK c)
  | .try2 body _, st, h => try2K (exs C body st h)
def exs (C : Calls) : Ss → Sl → Hs → O
  | .nil, st, h => .nx st h
  | .cons s ss, st, h => (ex C s st h).then (exs C ss)
end
section
variable (C : Calls) (st : Sl) (h : Hs)
@[simp] theorem q_ex_expr (e : E) : ex C (S.expr e) st h = (ev C e st h).st (exprK st) := rfl
@[simp] theorem q_ex_asg (t : Tg) (e : E) : ex C (S.asg t e) st h = (ev C e st h).st (asgK t st) := rfl
@[simp] theorem q_ex_fld (o : E) (f : Nat) (e : E) : ex C (S.fld o f e) st h = (ev C e st h).st (fldS1 C f (ev C o st) st) := rfl
@[simp] theorem q_ex_sub (o : E) (i : E) (e : E) : ex C (S.sub o i e) st h = (ev C e st h).st (subS1 (ev C o st) (ev C i st) st) := rfl
@[simp] theorem q_ex_aug (i : Nat) (op : Operator) (e : E) : ex C (S.aug i op e) st h = augG i op (ev C e st) st st[i]? h := rfl
@[simp] theorem q_ex_augF (o : E) (f : Nat) (op : Operator) (e : E) : ex C (S.augF o f op e) st h = (ev C o st h).st (afS1 C f op (ev C e st) st) := rfl
@[simp] theorem q_ex_augS (o : E) (i : E) (op : Operator) (e : E) : ex C (S.augS o i op e) st h = (ev C o st h).st (asS1 op (ev C i st) (ev C e st) st) := rfl
@[simp] theorem q_ex_del (o : E) (i : E) : ex C (S.del o i) st h = (ev C o st h).st (delS1 (ev C i st) st) := rfl
@[simp] theorem q_ex_ifs (c : E) (a : Ss) (b : Ss) : ex C (S.ifs c a b) st h = (et C c st h).st (ifS (exs C a st) (exs C b st)) := rfl
@[simp] theorem q_ex_fors (t : Tg) (it : I) (body : Ss) : ex C (S.fors t it body) st h = (evi C it st h).st (forS t (exs C body) st) := rfl
@[simp] theorem q_ex_whil (c : E) (body : Ss) : ex C (S.whil c body) st h = whV (et C c) (exs C body) fuel st h := rfl
@[simp] theorem q_ex_ret (e : E) : ex C (S.ret e) st h = (ev C e st h).st retK := rfl
@[simp] theorem q_ex_retN : ex C (S.retN) st h = .rt .non h := rfl
@[simp] theorem q_ex_brk : ex C (S.brk) st h = .bk st h := rfl
@[simp] theorem q_ex_cont : ex C (S.cont) st h = .ct st h := rfl
@[simp] theorem q_ex_rais (c : Nat) (es : Es) : ex C (S.rais c es) st h = (evs C es st h).st (raiK c) := rfl
@[simp] theorem q_ex_try2 (body : Ss) (i : Nat) : ex C (S.try2 body i) st h = try2K (exs C body st h) := rfl
@[simp] theorem q_ex_nev : ex C (S.nev) st h = .stk := rfl
@[simp] theorem q_ex_pass : ex C (S.pass) st h = .nx st h := rfl
@[simp] theorem q_exs_nil : exs C (Ss.nil) st h = .nx st h := rfl
@[simp] theorem q_exs_cons (s : S) (ss : Ss) : exs C (Ss.cons s ss) st h = (ex C s st h).then (exs C ss) := rfl
end
/-! ### functions, programs -/
structure Fn where
  cls : Option Str
  name : Str
  ps : List Str
  nms : List Str
  body : Ss
structure Cl where
  name : Str
  init : Option Nat
  meths : List (Nat × Nat)
  flds : List Nat
structure Tab where
  fns : List Fn
  cls : List Cl
  globs : List (Str × Val)
  nm : List Str
  free : List Str
  dcts : List (Str × List (List Nat × Int))
  excs : List (Nat × Arguments × List Stmt × Scope)
  file : Str
def endF (o : O) : R Val := match o with
  | .rt v h => .ok v h
  | .nx _ h => .ok .non h
  | .exc c vs h => .exc c vs h
  | _ => .stk
@[simp] theorem endF_rt (v : Val) (h : Hs) : endF (.rt v h) = .ok v h := rfl
@[simp] theorem endF_nx (st : Sl) (h : Hs) : endF (.nx st h) = .ok .non h := rfl
@[simp] theorem endF_exc (c : Nat) (vs : List Val) (h : Hs) : endF (.exc c vs h) = .exc c vs h := rfl
@[simp] def startS (k : Nat) (vs : List Val) : Sl := vs.map some ++ List.replicate (k - vs.length) none
@[simp] def run (C : Calls) (d : Fn) (vs : List Val) (h : Hs) : R Val := if vs.length = d.ps.length then endF (exs C d.body (startS d.nms.length vs) h) else .stk
/-- the calls of level n, those of the level below -/
def callP (G : Tab) : Nat → (Nat → List Val → Hs → R Val) × (Nat → List Val → Hs → R Val)
  | 0 => (fun _ _ _ => .stk, fun _ _ _ => .stk)
  | n + 1 => (fun f vs h => match G.fns[f]? with
    | some d => run ⟨(callP G n).1, (callP G n).2, fun c m => (G.cls[c]?).bind fun k => k.meths.lookup m, fun c => (G.cls[c]?).bind (·.init), fun k => (G.globs[k]?).map (·.2), fun c f => match G.cls[c]? with | some k => k.flds.contains f | none => false⟩ d vs h
    | none => .stk, (callP G n).1)
def callN (G : Tab) (n : Nat) : Nat → List Val → Hs → R Val := (callP G n).1
def callsN (G : Tab) (n : Nat) : Calls := ⟨(callP G n).1, (callP G n).2, fun c m => (G.cls[c]?).bind fun k => k.meths.lookup m, fun c => (G.cls[c]?).bind (·.init), fun k => (G.globs[k]?).map (·.2), fun c f => match G.cls[c]? with | some k => k.flds.contains f | none => false⟩
theorem callN_eq {G : Tab} {n f : Nat} {d : Fn} (e : G.fns[f]? = some d) (vs : List Val) (h : Hs) : callN G (n + 1) f vs h = run (callsN G n) d vs h := by
  show (match G.fns[f]? with
    | some d => run _ d vs h
    | none => R.stk) = _
  rw [e]
  rfl
theorem callsN_f (G : Tab) (n : Nat) : (callsN G n).f = callN G n := rfl
theorem callsN_i (G : Tab) (n : Nat) : (callsN G (n + 1)).i = callN G n := rfl
end MP

set_option Elab.async false
set_option linter.all false
set_option maxRecDepth 100000
set_option maxHeartbeats 1000000
set_option autoImplicit false
/-! MPb: how a value, a heap of MP lies in the model; the operations are sound. -/
namespace MP
open PySem PySem.Spec PyProof.Rows L2

abbrev mk (s : List Nat) : Str := ⟨s.toArray⟩
theorem mk_len (s : List Nat) : (mk s).length = s.length := by simp [mk, Str.length]
theorem mk_inj {s t : List Nat} : mk s = mk t ↔ s = t := by
  constructor
  · intro h
    have := congrArg (fun z : Str => z.cps.toList) h
    simpa [mk] using this
  · intro h
    rw [h]
theorem mk_of (z : Str) : mk z.cps.toList = z := by
  obtain ⟨⟨l⟩⟩ := z
  rfl
theorem lim_eq : sizeLine = lim := by rw [sizeLine_eq]; rfl

/-- what is fixed: the written part, the names' table, the classes' addresses -/
structure Ev where
  K : PySem.W.Frag
  nm : List Str
  ca : Nat → Addr
mutual
inductive RV (K : PySem.W.Frag) (m : List Addr) (H : Hp) : Val → V → Prop
  | non : RV K m H .non .non
  | bl (b : Bool) : RV K m H (.bl b) (.bl b)
  | int (i : Int) : RV K m H (.int i) (.int i)
  | str (s : List Nat) : RV K m H (.str s) (.str (mk s))
  | tup {a : Addr} {xs : List V} {vs : List Val} : SqT K H a xs → RVs K m H vs xs → RV K m H (.tup vs) (.ref a)
  | ref {n : Nat} {a : Addr} : m[n]? = some a → RV K m H (.ref n) (.ref a)
inductive RVs (K : PySem.W.Frag) (m : List Addr) (H : Hp) : List Val → List V → Prop
  | nil : RVs K m H [] []
  | cons {v : Val} {vs : List Val} {x : V} {xs : List V} : RV K m H v x → RVs K m H vs xs → RVs K m H (v :: vs) (x :: xs)
end
/-- what may become of the heap: all addresses known stay, tuples and locked things stay -/
structure Ext (m : List Addr) (H : Hp) (m' : List Addr) (H' : Hp) : Prop where
  pre : ∀ (n : Nat) (a : Addr), m[n]? = some a → m'[n]? = some a
  tup : ∀ a xs, H a = some (.tup xs) → H' a = some (.tup xs)
  frz : ∀ a o u, H a = some (.frz o u) → H' a = some (.frz o u)
theorem Ext.refl (m : List Addr) (H : Hp) : Ext m H m H := ⟨fun _ _ h => h, fun _ _ h => h, fun _ _ _ h => h⟩
theorem Ext.trans {m m1 m2 : List Addr} {H H1 H2 : Hp} (a : Ext m H m1 H1) (b : Ext m1 H1 m2 H2) : Ext m H m2 H2 :=
  ⟨fun n x h => b.pre n x (a.pre n x h), fun x xs h => b.tup x xs (a.tup x xs h), fun x o u h => b.frz x o u (a.frz x o u h)⟩
theorem Ext.sqT {K : PySem.W.Frag} {m m' : List Addr} {H H' : Hp} {a : Addr} {xs : List V} (e : Ext m H m' H') (h : SqT K H a xs) : SqT K H' a xs := by
  rcases h with (h | ⟨o, h⟩) | h
  · exact .inl (.inl (e.tup a xs h))
  · exact .inl (.inr ⟨o, e.frz a o _ h⟩)
  · exact .inr h
section
variable {K : PySem.W.Frag} {m m' : List Addr} {H H' : Hp}
mutual
theorem RV.mono (e : Ext m H m' H') : ∀ (v : Val) (x : V), RV K m H v x → RV K m' H' v x
  | .non, _, h => by cases h; exact .non
  | .bl b, _, h => by cases h; exact .bl b
  | .int i, _, h => by cases h; exact .int i
  | .str s, _, h => by cases h; exact .str s
  | .tup vs, _, h => by
    cases h with
    | tup h1 h2 => exact .tup (e.sqT h1) (RVs.mono e vs _ h2)
  | .ref n, _, h => by
    cases h with
    | ref h1 => exact .ref (e.pre _ _ h1)
theorem RVs.mono (e : Ext m H m' H') : ∀ (vs : List Val) (xs : List V), RVs K m H vs xs → RVs K m' H' vs xs
  | [], _, h => by cases h; exact .nil
  | v :: vs, _, h => by
    cases h with
    | cons h1 h2 => exact .cons (RV.mono e v _ h1) (RVs.mono e vs _ h2)
end
theorem RVs.len : ∀ {vs : List Val} {xs : List V}, RVs K m H vs xs → vs.length = xs.length
  | [], _, h => by cases h; rfl
  | v :: vs, _, h => by
    cases h with
    | cons h1 h2 => simp [RVs.len h2]
theorem RVs.get : ∀ {vs : List Val} {xs : List V} {i : Nat} {v : Val}, RVs K m H vs xs → vs[i]? = some v → ∃ x, xs[i]? = some x ∧ RV K m H v x
  | [], _, _, _, _, e => by simp at e
  | v :: vs, _, 0, _, h, e => by
    cases h with
    | cons h1 h2 => simp at e; subst e; exact ⟨_, rfl, h1⟩
  | v :: vs, _, i + 1, _, h, e => by
    cases h with
    | cons h1 h2 =>
      obtain ⟨x, q, r⟩ := RVs.get h2 (i := i) (by simpa using e)
      exact ⟨x, by simpa using q, r⟩
theorem RVs.get' : ∀ {vs : List Val} {xs : List V} {i : Nat} {x : V}, RVs K m H vs xs → xs[i]? = some x → ∃ v, vs[i]? = some v ∧ RV K m H v x := fun {vs xs i x} h e => by
  have hi : i < xs.length := (List.getElem?_eq_some_iff.mp e).1
  have hj : i < vs.length := by rw [h.len]; exact hi
  have hv : vs[i]? = some vs[i] := List.getElem?_eq_getElem hj
  obtain ⟨y, q, r⟩ := h.get hv
  rw [e] at q
  cases q
  exact ⟨_, hv, r⟩
theorem RVs.append : ∀ {vs ws : List Val} {xs ys : List V}, RVs K m H vs xs → RVs K m H ws ys → RVs K m H (vs ++ ws) (xs ++ ys)
  | [], _, _, _, h, h' => by cases h; exact h'
  | v :: vs, _, _, _, h, h' => by
    cases h with
    | cons h1 h2 => exact .cons h1 (RVs.append h2 h')
theorem RVs.take : ∀ {vs : List Val} {xs : List V} (n : Nat), RVs K m H vs xs → RVs K m H (vs.take n) (xs.take n)
  | _, _, 0, _ => by simp; exact .nil
  | [], _, n + 1, h => by cases h; exact .nil
  | v :: vs, _, n + 1, h => by
    cases h with
    | cons h1 h2 => exact .cons h1 (RVs.take n h2)
theorem RVs.drop : ∀ {vs : List Val} {xs : List V} (n : Nat), RVs K m H vs xs → RVs K m H (vs.drop n) (xs.drop n)
  | _, _, 0, h => by simpa using h
  | [], _, n + 1, h => by cases h; exact .nil
  | v :: vs, _, n + 1, h => by
    cases h with
    | cons h1 h2 => exact RVs.drop n h2
theorem RVs.set : ∀ {vs : List Val} {xs : List V} (i : Nat) {v : Val} {x : V}, RVs K m H vs xs → RV K m H v x → RVs K m H (vs.set i v) (xs.set i x)
  | [], _, _, _, _, h, _ => by cases h; exact .nil
  | v :: vs, _, 0, _, _, h, r => by
    cases h with
    | cons h1 h2 => exact .cons r h2
  | v :: vs, _, i + 1, _, _, h, r => by
    cases h with
    | cons h1 h2 => exact .cons h1 (RVs.set i h2 r)
theorem RVs.rep {vs : List Val} {xs : List V} (h : RVs K m H vs xs) : ∀ k : Nat, RVs K m H (List.replicate k vs).flatten (List.replicate k xs).flatten
  | 0 => .nil
  | k + 1 => by
    rw [List.replicate_succ, List.replicate_succ, List.flatten_cons, List.flatten_cons]
    exact h.append (RVs.rep h k)
theorem RVs.cut {vs : List Val} {xs : List V} (h : RVs K m H vs xs) (lo hi : Option Int) : RVs K m H (cutL vs lo hi) (cutV xs lo hi) := by
  unfold cutL cutV
  rw [h.len]
  exact (h.drop _).take _
theorem RVs.dropLast {vs : List Val} {xs : List V} (h : RVs K m H vs xs) : RVs K m H vs.dropLast xs.dropLast := by
  rw [List.dropLast_eq_take, List.dropLast_eq_take, h.len]
  exact h.take _
theorem RVs.ints : ∀ {vs : List Val} {xs : List V} {ns : List Int}, RVs K m H vs xs → isInts vs = some ns → xs = ns.map V.int
  | [], _, _, h, e => by cases h; simp [isInts] at e; subst e; rfl
  | .int i :: vs, _, ns, h, e => by
    cases h with
    | cons h1 h2 =>
      cases h1
      simp only [isInts, Option.map_eq_some_iff] at e
      obtain ⟨ms, e1, e2⟩ := e
      subst e2
      rw [RVs.ints h2 e1]
      rfl
  | .non :: _, _, _, _, e => by simp [isInts] at e
  | .bl _ :: _, _, _, _, e => by simp [isInts] at e
  | .str _ :: _, _, _, _, e => by simp [isInts] at e
  | .tup _ :: _, _, _, _, e => by simp [isInts] at e
  | .ref _ :: _, _, _, _, e => by simp [isInts] at e
theorem RVs.strs : ∀ {vs : List Val} {xs : List V} {ns : List (List Nat)}, RVs K m H vs xs → isStrs vs = some ns → xs = (ns.map mk).map V.str
  | [], _, _, h, e => by cases h; simp [isStrs] at e; subst e; rfl
  | .str i :: vs, _, ns, h, e => by
    cases h with
    | cons h1 h2 =>
      cases h1
      simp only [isStrs, Option.map_eq_some_iff] at e
      obtain ⟨ms, e1, e2⟩ := e
      subst e2
      rw [RVs.strs h2 e1]
      rfl
  | .non :: _, _, _, _, e => by simp [isStrs] at e
  | .bl _ :: _, _, _, _, e => by simp [isStrs] at e
  | .int _ :: _, _, _, _, e => by simp [isStrs] at e
  | .tup _ :: _, _, _, _, e => by simp [isStrs] at e
  | .ref _ :: _, _, _, _, e => by simp [isStrs] at e
theorem rvs_ints : ∀ ns : List Int, RVs K m H (ns.map Val.int) (ns.map V.int)
  | [] => .nil
  | n :: r => .cons (.int n) (rvs_ints r)
theorem rvs_strs : ∀ ns : List (List Nat), RVs K m H (ns.map Val.str) ((ns.map mk).map V.str)
  | [] => .nil
  | n :: r => .cons (.str n) (rvs_strs r)
end

/-! ### objects -/
def kyK : Ky → Key
  | .inl i => .inl i
  | .inr s => .inr (mk s)
theorem kyK_inj {a b : Ky} : kyK a = kyK b ↔ a = b := by
  constructor
  · intro h
    cases a <;> cases b <;> simp only [kyK] at h
    · exact congrArg Sum.inl (Sum.inl.inj h)
    · cases h
    · cases h
    · exact congrArg Sum.inr (mk_inj.mp (Sum.inr.inj h))
  · intro h
    rw [h]
inductive DR (K : PySem.W.Frag) (m : List Addr) (H : Hp) : List (Ky × Val) → List (Key × V) → Prop
  | nil : DR K m H [] []
  | cons {k : Ky} {v : Val} {x : V} {r : List (Ky × Val)} {s : List (Key × V)} : RV K m H v x → DR K m H r s → DR K m H ((k, v) :: r) ((kyK k, x) :: s)
inductive FR (nm : List Str) (K : PySem.W.Frag) (m : List Addr) (H : Hp) : List (Nat × Val) → List (Str × V) → Prop
  | nil : FR nm K m H [] []
  | cons {f : Nat} {g : Str} {v : Val} {x : V} {r : List (Nat × Val)} {s : List (Str × V)} : nm[f]? = some g → RV K m H v x → FR nm K m H r s → FR nm K m H ((f, v) :: r) ((g, x) :: s)
def ObR (Z : Ev) (m : List Addr) (H : Hp) (a : Addr) : Ob → Prop
  | .lst vs => ∃ xs, H a = some (.lst xs) ∧ RVs Z.K m H vs xs
  | .frz vs => ∃ xs, ((∃ o, H a = some (.frz o (.lst xs))) ∨ SqL Z.K (fun _ => none) a xs) ∧ RVs Z.K m H vs xs
  | .dct kvs => ∃ kxs, H a = some (.dK kxs) ∧ DR Z.K m H kvs kxs
  | .ins c fs => ∃ dx fx, H a = some (.ins (Z.ca c) dx fx) ∧ FR Z.nm Z.K m H fs fx ∧ Cls Z.K (Z.ca c) ∧ ∀ q ∈ fx, NoAttr Z.K (Z.ca c) q.1
def Ob.mut : Ob → Bool
  | .frz _ => false
  | _ => true
structure Rep (Z : Ev) (m : List Addr) (h : Hs) (H : Hp) : Prop where
  nm : Z.nm.Nodup
  len : m.length = h.length
  inj : ∀ (n k : Nat) (a : Addr) (ob ob' : Ob), m[n]? = some a → m[k]? = some a → h[n]? = some ob → h[k]? = some ob' → ob.mut = true → ob'.mut = true → n = k
  all : ∀ (n : Nat) (ob : Ob), h[n]? = some ob → ∃ a, m[n]? = some a ∧ ObR Z m H a ob
section
variable {Z : Ev} {K : PySem.W.Frag} {m m' : List Addr} {H H' : Hp} {h : Hs}
theorem DR.mono (e : Ext m H m' H') : ∀ {r : List (Ky × Val)} {s : List (Key × V)}, DR K m H r s → DR K m' H' r s
  | _, _, .nil => .nil
  | _, _, .cons a b => .cons (RV.mono e _ _ a) (DR.mono e b)
theorem FR.mono {nm : List Str} (e : Ext m H m' H') : ∀ {r : List (Nat × Val)} {s : List (Str × V)}, FR nm K m H r s → FR nm K m' H' r s
  | _, _, .nil => .nil
  | _, _, .cons g a b => .cons g (RV.mono e _ _ a) (FR.mono e b)
theorem ObR.some {a : Addr} {ob : Ob} (r : ObR Z m H a ob) (hm : ob.mut = true) : H a ≠ none := by
  cases ob with
  | lst vs => obtain ⟨xs, e, _⟩ := r; rw [e]; simp
  | frz vs => cases hm
  | dct kvs => obtain ⟨xs, e, _⟩ := r; rw [e]; simp
  | ins c fs => obtain ⟨dx, xs, e, _⟩ := r; rw [e]; simp
theorem SqL.none_of {a : Addr} {xs : List V} (h : SqL K (fun _ => none) a xs) (H : Hp) : SqL K H a xs := by
  rcases h with (h | ⟨o, h⟩) | h
  · cases h
  · cases h
  · exact .inr h
/-- the same object, its own place untouched -/
theorem ObR.stay {a : Addr} {ob : Ob} (r : ObR Z m H a ob) (e : Ext m H m' H') (ha : ob.mut = true → H' a = H a) : ObR Z m' H' a ob := by
  cases ob with
  | lst vs => obtain ⟨xs, q, w⟩ := r; exact ⟨xs, (ha rfl).trans q, RVs.mono e _ _ w⟩
  | frz vs =>
    obtain ⟨xs, q, w⟩ := r
    refine ⟨xs, ?_, RVs.mono e _ _ w⟩
    rcases q with ⟨o, q⟩ | q
    · exact .inl ⟨o, e.frz _ _ _ q⟩
    · exact .inr q
  | dct kvs => obtain ⟨xs, q, w⟩ := r; exact ⟨xs, (ha rfl).trans q, w.mono e⟩
  | ins c fs => obtain ⟨dx, xs, q, w, z⟩ := r; exact ⟨dx, xs, (ha rfl).trans q, w.mono e, z⟩
theorem ext_new {p : Addr} {o : HO} (hp : H p = none) : Ext m H (m ++ [p]) (upd H p o) := by
  refine ⟨fun n a e => ?_, fun a xs e => ?_, fun a o u e => ?_⟩
  · rw [List.getElem?_append_left (List.getElem?_eq_some_iff.mp e).1]; exact e
  · rw [upd_ne (ne_of_none e hp)]; exact e
  · rw [upd_ne (ne_of_none e hp)]; exact e
theorem ext_new0 {p : Addr} {o : HO} (hp : H p = none) : Ext m H m (upd H p o) := by
  refine ⟨fun n a e => e, fun a xs e => ?_, fun a o u e => ?_⟩
  · rw [upd_ne (ne_of_none e hp)]; exact e
  · rw [upd_ne (ne_of_none e hp)]; exact e
/-- a new thing that MP does not know (a tuple) -/
theorem Rep.lay (r : Rep Z m h H) {p : Addr} {o : HO} (hp : H p = none) : Rep Z m h (upd H p o) := by
  refine ⟨r.nm, r.len, r.inj, fun n ob e => ?_⟩
  obtain ⟨a, q, w⟩ := r.all n ob e
  refine ⟨a, q, w.stay (ext_new0 hp) fun hm => ?_⟩
  refine upd_ne fun z => ?_
  subst z
  exact w.some hm hp
/-- a new object -/
theorem Rep.new (r : Rep Z m h H) {p : Addr} {o : HO} {ob : Ob} (hp : H p = none) (w : ObR Z (m ++ [p]) (upd H p o) p ob) : Rep Z (m ++ [p]) (h ++ [ob]) (upd H p o) := by
  have lm : m.length = h.length := r.len
  refine ⟨r.nm, by simp [lm], fun n k a o1 o2 e1 e2 q1 q2 m1 m2 => ?_, fun n o1 e => ?_⟩
  · have ln : n < h.length ∨ n = h.length := by
      have := (List.getElem?_eq_some_iff.mp q1).1
      simp at this
      omega
    have lk : k < h.length ∨ k = h.length := by
      have := (List.getElem?_eq_some_iff.mp q2).1
      simp at this
      omega
    rcases ln with ln | ln <;> rcases lk with lk | lk
    · rw [List.getElem?_append_left (by omega)] at e1 e2 q1 q2
      exact r.inj n k a o1 o2 e1 e2 q1 q2 m1 m2
    · rw [List.getElem?_append_left (by omega)] at e1 q1
      subst lk
      rw [← lm] at e2
      simp at e2
      subst e2
      obtain ⟨b, z1, z2⟩ := r.all n o1 q1
      rw [e1] at z1
      cases z1
      exact absurd hp (z2.some m1)
    · rw [List.getElem?_append_left (by omega)] at e2 q2
      subst ln
      rw [← lm] at e1
      simp at e1
      subst e1
      obtain ⟨b, z1, z2⟩ := r.all k o2 q2
      rw [e2] at z1
      cases z1
      exact absurd hp (z2.some m2)
    · omega
  · have ln : n < h.length ∨ n = h.length := by
      have := (List.getElem?_eq_some_iff.mp e).1
      simp at this
      omega
    rcases ln with ln | ln
    · rw [List.getElem?_append_left ln] at e
      obtain ⟨a, q, z⟩ := r.all n o1 e
      refine ⟨a, (ext_new (m := m) (o := o) hp).pre _ _ q, z.stay (ext_new hp) fun hm => upd_ne fun y => ?_⟩
      subst y
      exact z.some hm hp
    · subst ln
      simp at e
      subst e
      exact ⟨p, by rw [← lm]; simp, w⟩
theorem ext_mut {a : Addr} {o u : HO} (ha : H a = some u) (h1 : ∀ xs, u ≠ .tup xs) (h2 : ∀ x y, u ≠ .frz x y) : Ext m H m (upd H a o) := by
  refine ⟨fun n b e => e, fun b xs e => ?_, fun b x y e => ?_⟩
  · rw [upd_ne]; · exact e
    intro z; subst z; rw [ha] at e; exact h1 xs (Option.some.inj e)
  · rw [upd_ne]; · exact e
    intro z; subst z; rw [ha] at e; exact h2 x y (Option.some.inj e)
/-- an object changed -/
theorem Rep.set (r : Rep Z m h H) {n : Nat} {a : Addr} {o u : HO} {ob ob' : Ob} (hn : m[n]? = some a) (hb : h[n]? = some ob) (hm : ob.mut = true) (hm' : ob'.mut = true) (ha : H a = some u) (h1 : ∀ xs, u ≠ .tup xs) (h2 : ∀ x y, u ≠ .frz x y)
    (w : ObR Z m (upd H a o) a ob') : Rep Z m (h.set n ob') (upd H a o) := by
  refine ⟨r.nm, by simp [r.len], fun i k b o1 o2 e1 e2 q1 q2 m1 m2 => ?_, fun i o1 e => ?_⟩
  · have g : ∀ (j : Nat) (z : Ob), (h.set n ob')[j]? = some z → z.mut = true → ∃ y, h[j]? = some y ∧ y.mut = true := fun j z q hz => by
      by_cases hj : n = j
      · subst hj; exact ⟨ob, hb, hm⟩
      · rw [List.getElem?_set_ne hj] at q; exact ⟨z, q, hz⟩
    obtain ⟨y1, z1, z2⟩ := g i o1 q1 m1
    obtain ⟨y2, z3, z4⟩ := g k o2 q2 m2
    exact r.inj i k b y1 y2 e1 e2 z1 z3 z2 z4
  · by_cases hj : n = i
    · subst hj
      rw [List.getElem?_set_self (List.getElem?_eq_some_iff.mp hb).1] at e
      cases e
      exact ⟨a, hn, w⟩
    · rw [List.getElem?_set_ne hj] at e
      obtain ⟨b, q, z⟩ := r.all i o1 e
      refine ⟨b, q, z.stay (ext_mut ha h1 h2) fun hz => upd_ne fun y => hj ?_⟩
      subst y
      exact r.inj n i b ob o1 hn q hb e hm hz
theorem Rep.at_ (r : Rep Z m h H) {n : Nat} {a : Addr} {ob : Ob} (hn : m[n]? = some a) (hb : h[n]? = some ob) : ObR Z m H a ob := by
  obtain ⟨b, q, w⟩ := r.all n ob hb
  rw [hn] at q
  cases q
  exact w
theorem Rep.lst (r : Rep Z m h H) {n : Nat} {a : Addr} {vs : List Val} (hn : m[n]? = some a) (hb : h[n]? = some (.lst vs)) : ∃ xs, H a = some (.lst xs) ∧ RVs Z.K m H vs xs := r.at_ hn hb
/-- a sequence -/
theorem Rep.seq (r : Rep Z m h H) {v : Val} {x : V} {vs : List Val} (rv : RV Z.K m H v x) (e : seqOf h v = some vs) : ∃ a xs, x = .ref a ∧ (SqL Z.K H a xs ∨ SqT Z.K H a xs) ∧ RVs Z.K m H vs xs := by
  cases rv with
  | tup h1 h2 =>
    simp [seqOf] at e
    subst e
    exact ⟨_, _, rfl, .inr h1, h2⟩
  | @ref n a h1 =>
    simp only [seqOf] at e
    cases q : h[n]? with
    | none => rw [q] at e; cases e
    | some ob =>
      rw [q] at e
      have w := r.at_ h1 q
      cases ob with
      | lst ws =>
        cases e
        obtain ⟨xs, z1, z2⟩ := w
        exact ⟨a, xs, rfl, .inl (SqL.of z1), z2⟩
      | frz ws =>
        cases e
        obtain ⟨xs, z1, z2⟩ := w
        refine ⟨a, xs, rfl, .inl ?_, z2⟩
        rcases z1 with ⟨o, z1⟩ | z1
        · exact .inl (.inr ⟨o, z1⟩)
        · exact SqL.none_of z1 H
      | dct _ => cases e
      | ins _ _ => cases e
  | non => cases e
  | bl _ => cases e
  | int _ => cases e
  | str _ => cases e
theorem Rep.seqL (r : Rep Z m h H) {n : Nat} {a : Addr} {vs : List Val} (hn : m[n]? = some a) (hb : h[n]? = some (.lst vs) ∨ h[n]? = some (.frz vs)) : ∃ xs, SqL Z.K H a xs ∧ RVs Z.K m H vs xs := by
  rcases hb with hb | hb
  · obtain ⟨xs, z1, z2⟩ := r.at_ hn hb
    exact ⟨xs, SqL.of z1, z2⟩
  · obtain ⟨xs, z1, z2⟩ := r.at_ hn hb
    refine ⟨xs, ?_, z2⟩
    rcases z1 with ⟨o, z1⟩ | z1
    · exact .inl (.inr ⟨o, z1⟩)
    · exact SqL.none_of z1 H
end
/-! ### what is wanted behind a result -/
def Post (Z : Ev) (m : List Addr) (H : Hp) (r : R Val) (Q : VK) : Prop := match r with
  | .ok v h => ∀ m' H' x, Ext m H m' H' → Rep Z m' h H' → RV Z.K m' H' v x → Q x H'
  | _ => False
def PostB (Z : Ev) (m : List Addr) (H : Hp) (r : R Bool) (Q : Bool → Hp → Prop) : Prop := match r with
  | .ok b h => ∀ m' H', Ext m H m' H' → Rep Z m' h H' → Q b H'
  | _ => False
def PostL (Z : Ev) (m : List Addr) (H : Hp) (r : R (List Val)) (Q : List V → Hp → Prop) : Prop := match r with
  | .ok vs h => ∀ m' H' xs, Ext m H m' H' → Rep Z m' h H' → RVs Z.K m' H' vs xs → Q xs H'
  | _ => False
def PostP (Z : Ev) (m : List Addr) (H : Hp) (r : R (Option Int)) (Q : Option Int → Hp → Prop) : Prop := match r with
  | .ok o h => ∀ m' H', Ext m H m' H' → Rep Z m' h H' → Q o H'
  | _ => False
def PostH (Z : Ev) (m : List Addr) (H : Hp) (o : Option Hs) (Q : Hp → Prop) : Prop := match o with
  | some h => ∀ m' H', Ext m H m' H' → Rep Z m' h H' → Q H'
  | none => False
section
variable {Z : Ev} {m : List Addr} {H : Hp} {h : Hs} {Q : VK}
theorem Post.of {v : Val} {x : V} (p : Post Z m H (.ok v h) Q) (r : Rep Z m h H) (rv : RV Z.K m H v x) : Q x H := p m H x (Ext.refl m H) r rv
theorem Post.mkNew {ob : Ob} {p : Addr} {o : HO} (q : Post Z m H (MP.new ob h) Q) (r : Rep Z m h H) (hp : H p = none) (w : ObR Z (m ++ [p]) (upd H p o) p ob) : Q (.ref p) (upd H p o) :=
  q (m ++ [p]) (upd H p o) (.ref p) (ext_new hp) (r.new hp w) (.ref (by rw [← r.len]; simp))
/-- a tuple made -/
theorem Post.tup {vs : List Val} {xs : List V} {p : Addr} (q : Post Z m H (.ok (.tup vs) h) Q) (r : Rep Z m h H) (hp : H p = none) (rv : RVs Z.K m H vs xs) : Q (.ref p) (upd H p (.tup xs)) :=
  q m (upd H p (.tup xs)) (.ref p) (ext_new0 hp) (r.lay hp) (.tup (SqT.of upd_same) (RVs.mono (ext_new0 hp) _ _ rv))
theorem Post.lst {vs : List Val} {xs : List V} {p : Addr} (q : Post Z m H (MP.new (.lst vs) h) Q) (r : Rep Z m h H) (hp : H p = none) (rv : RVs Z.K m H vs xs) : Q (.ref p) (upd H p (.lst xs)) :=
  q.mkNew r hp ⟨xs, upd_same, RVs.mono (ext_new hp) _ _ rv⟩
theorem Post.mono {m1 : List Addr} {H1 : Hp} {r : R Val} {Q' : VK} (p : Post Z m H r Q) (e : Ext m H m1 H1) (hq : ∀ x H, Q x H → Q' x H) : Post Z m1 H1 r Q' := by
  cases r with
  | ok v h => exact fun m' H' x e' r rv => hq _ _ (p m' H' x (e.trans e') r rv)
  | exc _ _ _ => exact p
  | stk => exact p
end
end MP

set_option Elab.async false
set_option linter.all false
set_option maxRecDepth 100000
set_option maxHeartbeats 1000000
set_option autoImplicit false
/-! MPc: operators, comparisons, truth, subscripts. -/
namespace MP
open PySem PySem.Spec PyProof.Rows L2

abbrev zz (X : Cx) (nm : List Str) (ca : Nat → Addr) : Ev := ⟨X.K, nm, ca⟩
def rBin (Z : Ev) (f : Val → Val → Hs → R Val) : R2 := fun x y H Q => ∃ m h a b, Rep Z m h H ∧ RV Z.K m H a x ∧ RV Z.K m H b y ∧ Post Z m H (f a b h) Q
section
variable {X : Cx} {nm : List Str} {ca : Nat → Addr}

theorem two63 : (1048576 : Int) < 2 ^ 63 := by decide
theorem op_bin (op : Operator) : OpR X (binaryOp op) (rBin (zz X nm ca) (binF op)) := by
  intro pins s σ H x y v u Q I rx ry hq
  obtain ⟨m, h, a, b, r, ra, rb, p⟩ := hq
  cases op with
  | Add =>
    cases ra with
    | int i =>
      cases rb with
      | int j => exact op_add pins s σ H _ _ v u Q I rx ry ⟨i, j, rfl, rfl, p.of r (.int _)⟩
      | _ => exact False.elim p
    | str i =>
      cases rb with
      | str j =>
        simp only [binF] at p
        split at p
        · rename_i hc
          refine op_add_str pins s σ H _ _ v u Q I rx ry ⟨mk i, mk j, rfl, rfl, by rw [mk_len, mk_len, lim_eq]; exact hc, ?_⟩
          have e : mk i ++ mk j = mk (i ++ j) := by
            show (⟨i.toArray ++ j.toArray⟩ : Str) = _
            simp [mk]
          rw [e]
          exact p.of r (.str _)
        · exact False.elim p
      | _ => exact False.elim p
    | @tup a1 xs vs h1 h2 =>
      cases rb with
      | @tup a2 ys ws h3 h4 =>
        simp only [binF] at p
        split at p
        · rename_i hc
          have l1 := h2.len
          have l2 := h4.len
          refine op_catA pins s σ H _ _ v u Q I rx ry ⟨a1, a2, xs, ys, rfl, rfl, h1, h3, by rw [lim_eq]; omega, fun e => ?_, fun _ e => ?_, fun _ _ t ht => ?_⟩
          · subst e
            cases h2
            exact p.of r (.tup h3 h4)
          · subst e
            cases h4
            rw [List.append_nil] at p
            exact p.of r (.tup h1 h2)
          · exact p.tup r ht (h2.append h4)
        · exact False.elim p
      | _ => exact False.elim p
    | @ref n a1 h1 =>
      cases rb with
      | @ref k a2 h2 =>
        simp only [binF] at p
        split at p
        · rename_i i j e1 e2
          split at p
          · rename_i hc
            obtain ⟨xs, q1, w1⟩ := r.lst h1 e1
            obtain ⟨ys, q2, w2⟩ := r.lst h2 e2
            have l1 := w1.len
            have l2 := w2.len
            exact op_cat pins s σ H _ _ v u Q I rx ry ⟨a1, a2, xs, ys, rfl, rfl, q1, q2, by rw [lim_eq]; omega, fun t ht => p.lst r ht (w1.append w2)⟩
          · exact False.elim p
        · exact False.elim p
      | _ => exact False.elim p
    | _ => exact False.elim p
  | Sub =>
    cases ra with
    | int i =>
      cases rb with
      | int j => exact op_sub pins s σ H _ _ v u Q I rx ry ⟨i, j, rfl, rfl, p.of r (.int _)⟩
      | _ => exact False.elim p
    | _ => exact False.elim p
  | Mult =>
    cases ra with
    | int i =>
      cases rb with
      | int j =>
        simp only [binF] at p
        split at p
        · rename_i hc
          exact op_mulW pins s σ H _ _ v u Q I rx ry ⟨i, j, rfl, rfl, hc, p.of r (.int _)⟩
        · exact False.elim p
      | _ => exact False.elim p
    | @ref n a1 h1 =>
      cases rb with
      | int k =>
        simp only [binF] at p
        split at p
        · rename_i i e1
          split at p
          · rename_i hc
            obtain ⟨xs, q1, w1⟩ := r.lst h1 e1
            have l1 := w1.len
            have t63 := two63
            refine op_rep pins s σ H _ _ v u Q I rx ry ⟨a1, k, xs, rfl, rfl, q1, by omega, by omega, by rw [lim_eq, ← l1]; exact hc.2.2, fun t ht => p.lst r ht (w1.rep _)⟩
          · exact False.elim p
        · exact False.elim p
      | _ => exact False.elim p
    | _ => exact False.elim p
  | FloorDiv =>
    cases ra with
    | int i =>
      cases rb with
      | int j =>
        simp only [binF] at p
        split at p
        · rename_i hc
          exact op_fdivW pins s σ H _ _ v u Q I rx ry ⟨i, j, rfl, rfl, hc, p.of r (.int _)⟩
        · exact False.elim p
      | _ => exact False.elim p
    | _ => exact False.elim p
  | Mod =>
    cases ra with
    | int i =>
      cases rb with
      | int j =>
        simp only [binF] at p
        split at p
        · rename_i hc
          exact op_mod pins s σ H _ _ v u Q I rx ry ⟨i, j, rfl, rfl, hc, p.of r (.int _)⟩
        · exact False.elim p
      | _ => exact False.elim p
    | _ => exact False.elim p
  | Pow =>
    cases ra with
    | int i =>
      cases rb with
      | int j =>
        simp only [binF] at p
        split at p
        · rename_i hc
          exact op_pow pins s σ H _ _ v u Q I rx ry ⟨i, j, rfl, rfl, hc, p.of r (.int _)⟩
        · exact False.elim p
      | _ => exact False.elim p
    | _ => exact False.elim p
  | LShift =>
    cases ra with
    | int i =>
      cases rb with
      | int j =>
        simp only [binF] at p
        split at p
        · rename_i hc
          exact op_shl pins s σ H _ _ v u Q I rx ry ⟨i, j, rfl, rfl, hc, p.of r (.int _)⟩
        · exact False.elim p
      | _ => exact False.elim p
    | _ => exact False.elim p
  | RShift =>
    cases ra with
    | int i =>
      cases rb with
      | int j =>
        simp only [binF] at p
        split at p
        · rename_i hc
          exact op_shr pins s σ H _ _ v u Q I rx ry ⟨i, j, rfl, rfl, hc, p.of r (.int _)⟩
        · exact False.elim p
      | _ => exact False.elim p
    | _ => exact False.elim p
  | BitAnd =>
    cases ra with
    | int i =>
      cases rb with
      | int j => exact op_and pins s σ H _ _ v u Q I rx ry ⟨i, j, rfl, rfl, p.of r (.int _)⟩
      | _ => exact False.elim p
    | _ => exact False.elim p
  | BitOr =>
    cases ra with
    | int i =>
      cases rb with
      | int j => exact op_or pins s σ H _ _ v u Q I rx ry ⟨i, j, rfl, rfl, p.of r (.int _)⟩
      | _ => exact False.elim p
    | _ => exact False.elim p
  | BitXor =>
    cases ra with
    | int i =>
      cases rb with
      | int j => exact op_xor pins s σ H _ _ v u Q I rx ry ⟨i, j, rfl, rfl, p.of r (.int _)⟩
      | _ => exact False.elim p
    | _ => exact False.elim p
  | MatMult => exact False.elim p
  | Div => exact False.elim p

/-! ### data -/
theorem dat_ok {Z : Ev} {m : List Addr} {h : Hs} {H : Hp} (r : Rep Z m h H) : ∀ (n : Nat) (v : Val) (x : V) (d : PyData), RV Z.K m H v x → dat h n v = some d → Dp Z.K H x d := by
  intro n
  induction n with
  | zero => intro v x d _ e; simp [dat] at e
  | succ n ih =>
    have all : ∀ (vs : List Val) (xs : List V) (ds : List PyData), RVs Z.K m H vs xs → oall (dat h n) vs = some ds → DpAll Z.K H xs ds := by
      intro vs
      induction vs with
      | nil =>
        intro xs ds hr e
        cases hr
        simp [oall] at e
        subst e
        exact .nil
      | cons v vs ihv =>
        intro xs ds hr e
        cases hr with
        | cons h1 h2 =>
          simp only [oall] at e
          split at e
          · rename_i d1 ds1 e1 e2
            cases e
            exact .cons (ih _ _ _ h1 e1) (ihv _ _ h2 e2)
          · cases e
    intro v x d rv e
    cases rv with
    | non => simp [dat] at e; subst e; exact .non
    | bl b => simp [dat] at e; subst e; exact .bl b
    | int i => simp [dat] at e; subst e; exact .int i
    | str i => simp [dat] at e; subst e; exact .str _
    | @tup a xs vs h1 h2 =>
      simp only [dat, Option.map_eq_some_iff] at e
      obtain ⟨ds, e1, e2⟩ := e
      subst e2
      exact .tup h1 (all _ _ _ h2 e1)
    | @ref k a h1 =>
      simp only [dat] at e
      split at e
      · rename_i vs q
        simp only [Option.map_eq_some_iff] at e
        obtain ⟨ds, e1, e2⟩ := e
        subst e2
        obtain ⟨xs, z1, z2⟩ := r.seqL h1 (.inl q)
        exact .lst z1 (all _ _ _ z2 e1)
      · rename_i vs q
        simp only [Option.map_eq_some_iff] at e
        obtain ⟨ds, e1, e2⟩ := e
        subst e2
        obtain ⟨xs, z1, z2⟩ := r.seqL h1 (.inr q)
        exact .lst z1 (all _ _ _ z2 e1)
      · cases e
theorem dats_ok {Z : Ev} {m : List Addr} {h : Hs} {H : Hp} (r : Rep Z m h H) (n : Nat) : ∀ (vs : List Val) (xs : List V) (ds : List PyData), RVs Z.K m H vs xs → oall (dat h n) vs = some ds → DpAll Z.K H xs ds := by
  intro vs
  induction vs with
  | nil =>
    intro xs ds hr e
    cases hr
    simp [oall] at e
    subst e
    exact .nil
  | cons v vs ihv =>
    intro xs ds hr e
    cases hr with
    | cons h1 h2 =>
      simp only [oall] at e
      split at e
      · rename_i d1 ds1 e1 e2
        cases e
        exact .cons (dat_ok r n _ _ _ h1 e1) (ihv _ _ h2 e2)
      · cases e
/-- == by data, as MP tells it -/
theorem eq_deq {Z : Ev} {m : List Addr} {h : Hs} {H : Hp} {a b : Val} {x y : V} {k : Bool} (r : Rep Z m h H) (ra : RV Z.K m H a x) (rb : RV Z.K m H b y) (e : deq h a b = some k) :
    ∃ d d', Dp Z.K H x d ∧ Dp Z.K H y d' ∧ SeqAt.shaped d = true ∧ SeqAt.shaped d' = true ∧ PyData.eqv d d' = k := by
  unfold deq at e
  split at e
  · rename_i d d' e1 e2
    split at e
    · rename_i hc
      exact ⟨d, d', dat_ok r _ _ _ _ ra e1, dat_ok r _ _ _ _ rb e2, hc.1, hc.2, Option.some.inj e⟩
    · cases e
  · cases e
/-- == -/
theorem eq_eqF {Z : Ev} {m : List Addr} {h : Hs} {H : Hp} {a b : Val} {x y : V} {k : Bool} (r : Rep Z m h H) (ra : RV Z.K m H a x) (rb : RV Z.K m H b y) (e : eqF h a b = some k) :
    (scal x y = true ∧ decide (x = y) = k) ∨ ∃ d d', Dp Z.K H x d ∧ Dp Z.K H y d' ∧ SeqAt.shaped d = true ∧ SeqAt.shaped d' = true ∧ PyData.eqv d d' = k := by
  cases ra with
  | non =>
    cases rb with
    | non => left; simp [eqF] at e; subst e; exact ⟨rfl, by simp⟩
    | int j => left; simp [eqF] at e; subst e; exact ⟨rfl, by simp⟩
    | bl j => left; simp [eqF] at e; subst e; exact ⟨rfl, by simp⟩
    | str j => left; simp [eqF] at e; subst e; exact ⟨rfl, by simp⟩
    | tup h1 h2 => exact .inr (eq_deq r .non (.tup h1 h2) e)
    | ref h1 => exact .inr (eq_deq r .non (.ref h1) e)
  | int i =>
    cases rb with
    | non => left; simp [eqF] at e; subst e; exact ⟨rfl, by simp⟩
    | int j => left; simp only [eqF, Option.some.injEq] at e; subst e; exact ⟨rfl, by simp⟩
    | bl j => exact .inr (eq_deq r (.int i) (.bl j) e)
    | str j => left; simp [eqF] at e; subst e; exact ⟨rfl, by simp⟩
    | tup h1 h2 => exact .inr (eq_deq r (.int i) (.tup h1 h2) e)
    | ref h1 => exact .inr (eq_deq r (.int i) (.ref h1) e)
  | bl i =>
    cases rb with
    | non => left; simp [eqF] at e; subst e; exact ⟨rfl, by simp⟩
    | int j => exact .inr (eq_deq r (.bl i) (.int j) e)
    | bl j => left; simp only [eqF, Option.some.injEq] at e; subst e; exact ⟨rfl, by simp⟩
    | str j => left; simp [eqF] at e; subst e; exact ⟨rfl, by simp⟩
    | tup h1 h2 => exact .inr (eq_deq r (.bl i) (.tup h1 h2) e)
    | ref h1 => exact .inr (eq_deq r (.bl i) (.ref h1) e)
  | str i =>
    cases rb with
    | non => left; simp [eqF] at e; subst e; exact ⟨rfl, by simp⟩
    | int j => left; simp [eqF] at e; subst e; exact ⟨rfl, by simp⟩
    | bl j => left; simp [eqF] at e; subst e; exact ⟨rfl, by simp⟩
    | str j =>
      left
      simp only [eqF, Option.some.injEq] at e
      subst e
      refine ⟨rfl, ?_⟩
      by_cases hij : i = j
      · rw [hij]; simp
      · rw [decide_eq_false hij, decide_eq_false]
        intro z
        exact hij (mk_inj.mp (V.str.inj z))
    | tup h1 h2 => exact .inr (eq_deq r (.str i) (.tup h1 h2) e)
    | ref h1 => exact .inr (eq_deq r (.str i) (.ref h1) e)
  | tup h1 h2 => exact .inr (eq_deq r (.tup h1 h2) rb e)
  | ref h1 => exact .inr (eq_deq r (.ref h1) rb e)

/-! ### dicts by keys -/
theorem DR.get {K : PySem.W.Frag} {m : List Addr} {H : Hp} (k : Ky) : ∀ {r : List (Ky × Val)} {s : List (Key × V)}, DR K m H r s → (∀ v, dget r k = some v → ∃ x, valV s (kyK k) = some x ∧ RV K m H v x) ∧ (dget r k = none → valV s (kyK k) = none)
  | _, _, .nil => ⟨fun v e => by simp [dget] at e, fun _ => rfl⟩
  | _, _, .cons (k := k1) (v := v1) (x := x1) (r := r) (s := s) a b => by
    obtain ⟨i1, i2⟩ := DR.get k b
    by_cases hk : k1 = k
    · subst hk
      have e1 : dget ((k1, v1) :: r) k1 = some v1 := by simp [dget]
      have e2 : valV ((kyK k1, x1) :: s) (kyK k1) = some x1 := valV_pos rfl
      rw [e1, e2]
      exact ⟨fun v e => ⟨x1, rfl, by cases e; exact a⟩, fun e => by cases e⟩
    · have e1 : dget ((k1, v1) :: r) k = dget r k := by simp [dget, List.find?_cons, hk]
      have e2 : valV ((kyK k1, x1) :: s) (kyK k) = valV s (kyK k) := valV_neg fun z => hk (kyK_inj.mp z)
      rw [e1, e2]
      exact ⟨i1, i2⟩
theorem DR.isSome {K : PySem.W.Frag} {m : List Addr} {H : Hp} {k : Ky} {r : List (Ky × Val)} {s : List (Key × V)} (d : DR K m H r s) : (valV s (kyK k)).isSome = (dget r k).isSome := by
  obtain ⟨i1, i2⟩ := d.get k
  cases e : dget r k with
  | none => rw [i2 e]; rfl
  | some v => obtain ⟨x, q, _⟩ := i1 v e; rw [q]; rfl
theorem DR.len {K : PySem.W.Frag} {m : List Addr} {H : Hp} : ∀ {r : List (Ky × Val)} {s : List (Key × V)}, DR K m H r s → s.length = r.length
  | _, _, .nil => rfl
  | _, _, .cons a b => by simp [b.len]
theorem DR.any {K : PySem.W.Frag} {m : List Addr} {H : Hp} {k : Ky} : ∀ {r : List (Ky × Val)} {s : List (Key × V)}, DR K m H r s → (s.any fun kv => decide (kv.1 = kyK k)) = r.any fun kv => decide (kv.1 = k)
  | _, _, .nil => rfl
  | _, _, .cons (k := k1) a b => by
    rw [List.any_cons, List.any_cons, b.any]
    congr 1
    by_cases hk : k1 = k
    · subst hk; simp
    · rw [decide_eq_false hk, decide_eq_false]
      exact fun z => hk (kyK_inj.mp z)
theorem DR.repl {K : PySem.W.Frag} {m : List Addr} {H : Hp} {k : Ky} {v : Val} {x : V} (rv : RV K m H v x) : ∀ {r : List (Ky × Val)} {s : List (Key × V)}, DR K m H r s → DR K m H (r.map fun kv => if kv.1 = k then (kv.1, v) else kv) (s.map fun kv => if kv.1 = kyK k then (kv.1, x) else kv)
  | _, _, .nil => .nil
  | _, _, .cons (k := k1) a b => by
    rw [List.map_cons, List.map_cons]
    by_cases hk : k1 = k
    · subst hk
      rw [if_pos rfl, if_pos rfl]
      exact .cons rv (DR.repl rv b)
    · rw [if_neg hk, if_neg (fun z => hk (kyK_inj.mp z))]
      exact .cons a (DR.repl rv b)
theorem DR.snoc {K : PySem.W.Frag} {m : List Addr} {H : Hp} {k : Ky} {v : Val} {x : V} (rv : RV K m H v x) : ∀ {r : List (Ky × Val)} {s : List (Key × V)}, DR K m H r s → DR K m H (r ++ [(k, v)]) (s ++ [(kyK k, x)])
  | _, _, .nil => .cons rv .nil
  | _, _, .cons a b => .cons a (DR.snoc rv b)
theorem DR.put {K : PySem.W.Frag} {m : List Addr} {H : Hp} {k : Ky} {v : Val} {x : V} {r : List (Ky × Val)} {s : List (Key × V)} (d : DR K m H r s) (rv : RV K m H v x) : DR K m H (dput r k v) (putK s (kyK k) x) := by
  unfold dput putK
  rw [d.any]
  split
  · exact d.repl rv
  · exact d.snoc rv
theorem DR.del {K : PySem.W.Frag} {m : List Addr} {H : Hp} {k : Ky} : ∀ {r : List (Ky × Val)} {s : List (Key × V)}, DR K m H r s → DR K m H (ddel r k) (dropK s (kyK k))
  | _, _, .nil => .nil
  | _, _, .cons (k := k1) (v := v1) (x := x1) (r := r) (s := s) a b => by
    have ih := DR.del (k := k) b
    unfold ddel dropK at ih ⊢
    rw [List.filter_cons, List.filter_cons]
    by_cases hk : k1 = k
    · subst hk
      rw [if_neg (by simp), if_neg (by simp)]
      exact ih
    · rw [if_pos (by simpa using hk), if_pos (by simpa using fun z => hk (kyK_inj.mp z))]
      exact .cons a ih
theorem toKy_rv {K : PySem.W.Frag} {m : List Addr} {H : Hp} {v : Val} {x : V} {k : Ky} (rv : RV K m H v x) (e : toKy v = some k) : x = kV (kyK k) := by
  cases rv with
  | int i => cases e; rfl
  | str s => cases e; rfl
  | _ => cases e
theorem Rep.dct {Z : Ev} {m : List Addr} {h : Hs} {H : Hp} (r : Rep Z m h H) {n : Nat} {a : Addr} {kvs : List (Ky × Val)} (hn : m[n]? = some a) (hb : h[n]? = some (.dct kvs)) : ∃ kxs, H a = some (.dK kxs) ∧ DR Z.K m H kvs kxs := r.at_ hn hb
theorem dctOf_rv {Z : Ev} {m : List Addr} {h : Hs} {H : Hp} {v : Val} {x : V} {kvs : List (Ky × Val)} (r : Rep Z m h H) (rv : RV Z.K m H v x) (e : dctOf h v = some kvs) : ∃ a kxs, x = .ref a ∧ H a = some (.dK kxs) ∧ DR Z.K m H kvs kxs := by
  cases rv with
  | @ref n a h1 =>
    simp only [dctOf] at e
    split at e
    · rename_i kv q
      cases e
      obtain ⟨kxs, z1, z2⟩ := r.dct h1 q
      exact ⟨a, kxs, rfl, z1, z2⟩
    · cases e
  | _ => cases e

/-! ### in -/
def rDIn (neg : Bool) : R2 := fun x y H Q => ∃ a o, y = .ref a ∧ DGet H a x o ∧ Q (.bl (if neg then !o.isSome else o.isSome)) H
theorem op_din (hu : X.A.units + 1 < cLine) : OpR X (compareOp .In) (rDIn false) := by
  intro pins s σ H x y v u Q I rx ry h
  obtain ⟨a, o, rfl, g, q⟩ := h
  cases ry
  exact d_in hu I g rx fun s' I' => ⟨.bl o.isSome, H, I', rfl, q⟩
theorem op_dnin (hu : X.A.units + 1 < cLine) : OpR X (compareOp .NotIn) (rDIn true) := by
  intro pins s σ H x y v u Q I rx ry h
  obtain ⟨a, o, rfl, g, q⟩ := h
  cases ry
  exact d_notIn hu I g rx fun s' I' => ⟨.bl (!o.isSome), H, I', rfl, q⟩

theorem flat_rv {K : PySem.W.Frag} {m : List Addr} {H : Hp} {v : Val} {x : V} (rv : RV K m H v x) (e : flat v = true) : flatV x = true := by
  cases rv <;> first | rfl | (simp [flat] at e)
theorem eqW_rv {K : PySem.W.Frag} {m : List Addr} {H : Hp} {v w : Val} {x y : V} (rv : RV K m H v x) (rw_ : RV K m H w y) (e : flat v = true) (e' : flat w = true) : eqV x y = eqW v w := by
  cases rv <;> cases rw_ <;> first
    | rfl
    | (simp [flat] at e; done)
    | (simp [flat] at e'; done)
    | (simp only [eqV, eqW]
       first
         | (rw [Bool.eq_iff_iff]; simp [mk_inj]; done)
         | (simp [mk_inj]; done))
theorem flats_rv {K : PySem.W.Frag} {m : List Addr} {H : Hp} : ∀ {vs : List Val} {xs : List V}, RVs K m H vs xs → vs.all flat = true → xs.all flatV = true
  | [], _, h, _ => by cases h; rfl
  | v :: vs, _, h, e => by
    cases h with
    | cons h1 h2 =>
      rw [List.all_cons, Bool.and_eq_true] at e ⊢
      exact ⟨flat_rv h1 e.1, flats_rv h2 e.2⟩
theorem any_rv {K : PySem.W.Frag} {m : List Addr} {H : Hp} {w : Val} {y : V} (rw_ : RV K m H w y) (fw : flat w = true) : ∀ {vs : List Val} {xs : List V}, RVs K m H vs xs → vs.all flat = true → inV y xs = vs.any fun z => eqW z w
  | [], _, h, _ => by cases h; rfl
  | v :: vs, _, h, e => by
    cases h with
    | cons h1 h2 =>
      rw [List.all_cons, Bool.and_eq_true] at e
      show (eqV _ y || inV y _) = (eqW v w || _)
      rw [eqW_rv h1 rw_ e.1 fw, any_rv rw_ fw h2 e.2]
/-- what in says of two values -/
def InP (Z : Ev) (m : List Addr) (H : Hp) (x y : V) (k : Bool) : Prop :=
  (∃ (c : Nat) (z : Str), x = .str ⟨#[c]⟩ ∧ y = .str z ∧ decide (c ∈ z.cps.toList) = k) ∨ (∃ a o, y = .ref a ∧ DGet H a x o ∧ o.isSome = k) ∨
  (∃ p xs, y = .ref p ∧ (SqL Z.K H p xs ∨ SqT Z.K H p xs) ∧ flatV x = true ∧ xs.all flatV = true ∧ inV x xs = k) ∨
  (∃ d ds, Dp Z.K H x d ∧ Dp Z.K H y (.list ds) ∧ SeqAt.shaped d = true ∧ SeqAt.shaped (.list ds) = true ∧ (ds.any fun z => PyData.eqv z d) = k) ∨
  (∃ d ds, Dp Z.K H x d ∧ Dp Z.K H y (.tuple ds) ∧ SeqAt.shaped d = true ∧ SeqAt.shaped (.list ds) = true ∧ (ds.any fun z => PyData.eqv z d) = k)
theorem op_inDT {X : Cx} (hu : X.A.units + 65 < cLine) : OpR X (compareOp .In) (fun x y H Q => ∃ d ds, Dp X.K H x d ∧ Dp X.K H y (.tuple ds) ∧ SeqAt.shaped d = true ∧ SeqAt.shaped (.list ds) = true ∧ Q (.bl (ds.any fun z => PyData.eqv z d)) H) := by
  intro pins s σ H x y v u Q I rx ry h
  obtain ⟨d, ds, hd, he, sd, se, q⟩ := h
  obtain ⟨as, r1⟩ := Dp.reads I d x v hd rx
  obtain ⟨bs, r2⟩ := Dp.reads I (.tuple ds) y u he ry
  exact SeqAt.in_tuple_reads r2 r1 (SeqAt.canLay_of_shaped se) (SeqAt.canLay_of_shaped sd) (room_in_shaped sd hu) ⟨.bl _, H, I, rfl, q⟩
theorem op_notInDT {X : Cx} (hu : X.A.units + 65 < cLine) : OpR X (compareOp .NotIn) (fun x y H Q => ∃ d ds, Dp X.K H x d ∧ Dp X.K H y (.tuple ds) ∧ SeqAt.shaped d = true ∧ SeqAt.shaped (.list ds) = true ∧ Q (.bl (!ds.any fun z => PyData.eqv z d)) H) := by
  intro pins s σ H x y v u Q I rx ry h
  obtain ⟨d, ds, hd, he, sd, se, q⟩ := h
  obtain ⟨as, r1⟩ := Dp.reads I d x v hd rx
  obtain ⟨bs, r2⟩ := Dp.reads I (.tuple ds) y u he ry
  exact SeqAt.notIn_tuple_reads r2 r1 (SeqAt.canLay_of_shaped se) (SeqAt.canLay_of_shaped sd) (room_in_shaped sd hu) ⟨.bl _, H, I, rfl, q⟩
theorem inF_ok {Z : Ev} {m : List Addr} {h : Hs} {H : Hp} {a b : Val} {x y : V} {k : Bool} (r : Rep Z m h H) (ra : RV Z.K m H a x) (rb : RV Z.K m H b y) (e : inF h a b = some k) : InP Z m H x y k := by
  have gen : inGen h a b = some k → InP Z m H x y k := by
    intro e
    unfold inGen at e
    split at e
    · rename_i kvs q
      rw [Option.map_eq_some_iff] at e
      obtain ⟨ky, e1, e2⟩ := e
      obtain ⟨p, kxs, z1, z2, z3⟩ := dctOf_rv r rb q
      refine .inr (.inl ⟨p, valV kxs (kyK ky), z1, ?_, ?_⟩)
      · rw [toKy_rv ra e1]
        exact DGet.k z2
      · rw [z3.isSome]
        exact e2
    · split at e
      · rename_i vs hs
        unfold inSq at e
        split at e
        · rename_i hc
          obtain ⟨p, xs, e1, e2, e3⟩ := r.seq rb hs
          refine .inr (.inr (.inl ⟨p, xs, e1, e2, flat_rv ra hc.1, flats_rv e3 hc.2, ?_⟩))
          rw [any_rv ra hc.1 e3 hc.2]
          exact Option.some.inj e
        · cases rb with
          | @ref n p hn =>
            simp only [inDeep] at e
            split at e
            · rename_i d ds e1 e2
              split at e
              · rename_i hc
                obtain ⟨xs, z1, z2⟩ : ∃ xs, SqL Z.K H p xs ∧ RVs Z.K m H vs xs := by
                  simp only [seqOf] at hs
                  split at hs
                  · rename_i ws q
                    cases hs
                    exact r.seqL hn (.inl q)
                  · rename_i ws q
                    cases hs
                    exact r.seqL hn (.inr q)
                  · cases hs
                exact .inr (.inr (.inr (.inl ⟨d, ds, dat_ok r _ _ _ _ ra e1, .lst z1 (dats_ok r _ _ _ _ z2 e2), hc.1, hc.2, Option.some.inj e⟩)))
              · cases e
            · cases e
          | tup hq rvs =>
            simp only [inDeep] at e
            split at e
            · rename_i d ds e1 e2
              split at e
              · rename_i hc
                have e9 := Option.some.inj e
                have hs2 := Option.some.inj hs
                subst hs2
                exact .inr (.inr (.inr (.inr ⟨d, ds, dat_ok r _ _ _ _ ra e1, .tup hq (dats_ok r _ _ _ _ rvs e2), hc.1, hc.2, e9⟩)))
              · cases e
            · cases e
          | _ => cases e
      · cases e
  cases b with
  | str s =>
    cases rb
    simp only [inF] at e
    split at e
    · rename_i c
      cases ra
      exact .inl ⟨c, mk s, rfl, rfl, Option.some.inj e⟩
    · cases e
  | non => exact gen e
  | bl _ => exact gen e
  | int _ => exact gen e
  | tup _ => exact gen e
  | ref _ => exact gen e

/-! ### comparisons -/
theorem ltL_ok (i j : List Nat) : ltL i j = decide ((mk i).cps.toList < (mk j).cps.toList) := rfl
theorem ltTs_ok {Z : Ev} {m : List Addr} {H : Hp} {h : Hs} {vs ws : List Val} {Q : VK} (p : Post Z m H ((ofO (ltTs vs ws) h).bind fun k h => .ok (.bl k) h) Q) : ∃ a b, isInts vs = some a ∧ isInts ws = some b ∧ Post Z m H (.ok (.bl (HT.lexLt a b)) h) Q := by
  unfold ltTs at p
  cases e1 : isInts vs with
  | none => rw [e1] at p; exact False.elim p
  | some a =>
    cases e2 : isInts ws with
    | none => rw [e1, e2] at p; exact False.elim p
    | some b => rw [e1, e2] at p; exact ⟨a, b, rfl, rfl, p⟩
theorem op_cmpS (hu : X.A.units + 65 < cLine) (op : CmpOp) : OpR X (compareOp op) (rBin (zz X nm ca) (cmpF op)) := by
  intro pins s σ H x y v u Q I rx ry hq
  obtain ⟨m, h, a, b, r, ra, rb, p⟩ := hq
  cases op with
  | Eq =>
    simp only [cmpF] at p
    cases e : eqF h a b with
    | none => rw [e] at p; exact False.elim p
    | some k =>
      rw [e] at p
      have q := p.of r (.bl k)
      rcases eq_eqF r ra rb e with ⟨e1, e2⟩ | ⟨d, d', e1, e2, e3, e4, e5⟩
      · exact op_eq pins s σ H _ _ v u Q I rx ry ⟨e1, by rw [e2]; exact q⟩
      · exact op_eqD (by omega) pins s σ H _ _ v u Q I rx ry ⟨d, d', e1, e2, e3, e4, by rw [e5]; exact q⟩
  | NotEq =>
    simp only [cmpF] at p
    cases e : eqF h a b with
    | none => rw [e] at p; exact False.elim p
    | some k =>
      rw [e] at p
      have q := p.of r (.bl (!k))
      rcases eq_eqF r ra rb e with ⟨e1, e2⟩ | ⟨d, d', e1, e2, e3, e4, e5⟩
      · exact op_ne pins s σ H _ _ v u Q I rx ry ⟨e1, by rw [e2]; exact q⟩
      · exact op_neD (by omega) pins s σ H _ _ v u Q I rx ry ⟨d, d', e1, e2, e3, e4, by rw [e5]; exact q⟩
  | Lt =>
    cases ra with
    | int i =>
      cases rb with
      | int j => exact op_lt pins s σ H _ _ v u Q I rx ry ⟨i, j, rfl, rfl, p.of r (.bl _)⟩
      | _ => exact False.elim p
    | str i =>
      cases rb with
      | str j => exact op_lt_str pins s σ H _ _ v u Q I rx ry ⟨mk i, mk j, rfl, rfl, p.of r (.bl _)⟩
      | _ => exact False.elim p
    | tup h1 h2 =>
      cases rb with
      | tup h3 h4 =>
        obtain ⟨a, b, e1, e2, p⟩ := ltTs_ok p
        exact op_ltT (by omega) pins s σ H _ _ v u Q I rx ry ⟨_, _, a, b, rfl, rfl, by rw [← h2.ints e1]; exact h1, by rw [← h4.ints e2]; exact h3, p.of r (.bl _)⟩
      | _ => exact False.elim p
    | _ => exact False.elim p
  | LtE =>
    cases ra with
    | int i =>
      cases rb with
      | int j => exact op_le pins s σ H _ _ v u Q I rx ry ⟨i, j, rfl, rfl, p.of r (.bl _)⟩
      | _ => exact False.elim p
    | str i =>
      cases rb with
      | str j => exact op_le_str pins s σ H _ _ v u Q I rx ry ⟨mk i, mk j, rfl, rfl, p.of r (.bl _)⟩
      | _ => exact False.elim p
    | _ => exact False.elim p
  | Gt =>
    cases ra with
    | int i =>
      cases rb with
      | int j => exact op_gt pins s σ H _ _ v u Q I rx ry ⟨i, j, rfl, rfl, p.of r (.bl _)⟩
      | _ => exact False.elim p
    | str i =>
      cases rb with
      | str j => exact op_gt_str pins s σ H _ _ v u Q I rx ry ⟨mk i, mk j, rfl, rfl, p.of r (.bl _)⟩
      | _ => exact False.elim p
    | tup h1 h2 =>
      cases rb with
      | tup h3 h4 =>
        obtain ⟨a, b, e1, e2, p⟩ := ltTs_ok p
        exact op_gtT (by omega) pins s σ H _ _ v u Q I rx ry ⟨_, _, b, a, rfl, rfl, by rw [← h2.ints e2]; exact h1, by rw [← h4.ints e1]; exact h3, p.of r (.bl _)⟩
      | _ => exact False.elim p
    | _ => exact False.elim p
  | GtE =>
    cases ra with
    | int i =>
      cases rb with
      | int j => exact op_ge pins s σ H _ _ v u Q I rx ry ⟨i, j, rfl, rfl, p.of r (.bl _)⟩
      | _ => exact False.elim p
    | str i =>
      cases rb with
      | str j => exact op_ge_str pins s σ H _ _ v u Q I rx ry ⟨mk i, mk j, rfl, rfl, p.of r (.bl _)⟩
      | _ => exact False.elim p
    | _ => exact False.elim p
  | Is =>
    cases rb with
    | non =>
      refine op_isN pins s σ H _ _ v u Q I rx ry ⟨rfl, ?_⟩
      cases ra with
      | non => exact p.of r (.bl true)
      | bl _ => exact p.of r (.bl false)
      | int _ => exact p.of r (.bl false)
      | str _ => exact p.of r (.bl false)
      | tup _ _ => exact p.of r (.bl false)
      | ref _ => exact p.of r (.bl false)
    | _ => cases a <;> exact False.elim p
  | IsNot =>
    cases rb with
    | non =>
      refine op_notN pins s σ H _ _ v u Q I rx ry ⟨rfl, ?_⟩
      cases ra with
      | non => exact p.of r (.bl false)
      | bl _ => exact p.of r (.bl true)
      | int _ => exact p.of r (.bl true)
      | str _ => exact p.of r (.bl true)
      | tup _ _ => exact p.of r (.bl true)
      | ref _ => exact p.of r (.bl true)
    | _ => cases a <;> exact False.elim p
  | In =>
    simp only [cmpF] at p
    cases e : inF h a b with
    | none => rw [e] at p; exact False.elim p
    | some k =>
      rw [e] at p
      have q := p.of r (.bl k)
      rcases inF_ok r ra rb e with ⟨c, z, e1, e2, e3⟩ | ⟨t, o, e1, e2, e3⟩ | ⟨t, xs, e1, e2, e3, e4, e5⟩ | ⟨d, ds, e1, e2, e3, e4, e5⟩ | ⟨d, ds, e1, e2, e3, e4, e5⟩
      · exact op_in_sign pins s σ H _ _ v u Q I rx ry ⟨c, z, e1, e2, by rw [e3]; exact q⟩
      · exact op_din (by omega) pins s σ H _ _ v u Q I rx ry ⟨t, o, e1, e2, by rw [if_neg (by simp), e3]; exact q⟩
      · exact op_in_seq pins s σ H _ _ v u Q I rx ry ⟨t, xs, e1, e2, e3, e4, by rw [if_neg (by simp), e5]; exact q⟩
      · exact op_inD hu pins s σ H _ _ v u Q I rx ry ⟨d, ds, e1, e2, e3, e4, by rw [e5]; exact q⟩
      · exact op_inDT hu pins s σ H _ _ v u Q I rx ry ⟨d, ds, e1, e2, e3, e4, by rw [e5]; exact q⟩
  | NotIn =>
    simp only [cmpF] at p
    cases e : inF h a b with
    | none => rw [e] at p; exact False.elim p
    | some k =>
      rw [e] at p
      have q := p.of r (.bl (!k))
      rcases inF_ok r ra rb e with ⟨c, z, e1, e2, e3⟩ | ⟨t, o, e1, e2, e3⟩ | ⟨t, xs, e1, e2, e3, e4, e5⟩ | ⟨d, ds, e1, e2, e3, e4, e5⟩ | ⟨d, ds, e1, e2, e3, e4, e5⟩
      · exact op_notIn_sign pins s σ H _ _ v u Q I rx ry ⟨c, z, e1, e2, by rw [e3]; exact q⟩
      · exact op_dnin (by omega) pins s σ H _ _ v u Q I rx ry ⟨t, o, e1, e2, by rw [if_pos rfl, e3]; exact q⟩
      · exact op_notIn_seq pins s σ H _ _ v u Q I rx ry ⟨t, xs, e1, e2, e3, e4, by rw [if_pos rfl, e5]; exact q⟩
      · exact op_notInD hu pins s σ H _ _ v u Q I rx ry ⟨d, ds, e1, e2, e3, e4, by rw [e5]; exact q⟩
      · exact op_notInDT hu pins s σ H _ _ v u Q I rx ry ⟨d, ds, e1, e2, e3, e4, by rw [e5]; exact q⟩

/-! ### truth -/
theorem tru_rv {Z : Ev} {m : List Addr} {h : Hs} {H : Hp} {v : Val} {x : V} {k : Bool} (r : Rep Z m h H) (rv : RV Z.K m H v x) (e : truF h v = some k) : TruV Z.K x H k := by
  cases rv with
  | non => cases e; rfl
  | bl b => cases e; rfl
  | int i => cases e; rfl
  | str s =>
    simp only [truF] at e
    split at e
    · rename_i hc
      cases e
      refine ⟨by rw [mk_len, lim_eq]; exact hc, ?_⟩
      rw [mk_len]
      cases s <;> simp
      omega
    · cases e
  | @tup a xs vs h1 h2 =>
    cases e
    refine .inr (.inl ⟨xs, h1, ?_⟩)
    cases h2 <;> rfl
  | @ref n a h1 =>
    simp only [truF] at e
    split at e
    · rename_i vs q
      cases e
      obtain ⟨xs, z1, z2⟩ := r.seqL h1 (.inl q)
      refine .inl ⟨xs, z1, ?_⟩
      cases z2 <;> rfl
    · rename_i vs q
      cases e
      obtain ⟨xs, z1, z2⟩ := r.seqL h1 (.inr q)
      refine .inl ⟨xs, z1, ?_⟩
      cases z2 <;> rfl
    · rename_i kvs q
      cases e
      obtain ⟨kxs, z1, z2⟩ := r.dct h1 q
      refine .inr (.inr ⟨kxs, z1, ?_⟩)
      cases z2 <;> rfl
    · cases e
end
end MP

set_option Elab.async false
set_option linter.all false
set_option maxRecDepth 100000
set_option maxHeartbeats 1000000
set_option autoImplicit false
/-! MPd: subscripts, slices, stores, fields, built-ins. -/
namespace MP
open PySem PySem.Spec PyProof.Rows L2
section
variable {X : Cx} {nm : List Str} {ca : Nat → Addr}

theorem ix_dict (hu : X.A.units + 1 < cLine) : IxR X (fun x y H Q => ∃ a v, x = .ref a ∧ DGet H a y (some v) ∧ Q v H) := by
  intro value slice pins s σ H x y v u Q I rx ry h hs
  obtain ⟨a, z, rfl, g, q⟩ := h
  obtain rfl : v = Value.ref a := rx
  unfold subscriptTail
  refine wpAny_bind ?_
  have hT := dict_typeIs I g
  rw [getitemInPython_of_ne hT.not_modules]
  refine wpAny_bind (wpAny_specialOf hT PySem.F.slot_dict_getitem.lookup ?_)
  have fin : wpAny (model X.prog X.w) X.A (subscripted slice false (.ref a) u) (fun r s₃ => wpAny (model X.prog X.w) X.A (letTemporaryGo value (.ref a) r >>= fun _ => pure r) (EP X pins σ Q) X.xe s₃) X.xe s := by
    rw [hs]
    exact wpAny_operating (wpAny_mono (d_getItem hu I g ry fun w' s3 I3 rw' => show EP X pins σ Q w' s3 from ⟨z, H, I3, rw', q⟩) (fun r s₃ h₃ => wpAny_bind (wpAny_letTemporaryGo (wpAny_pure h₃))) fun _ _ x => x)
  first
    | exact wpAny_pure (wpAny_bind fin)
    | exact wpAny_bind (wpAny_pure (wpAny_bind fin))
    | exact wpAny_bind fin
theorem atI_rvs {K : PySem.W.Frag} {m : List Addr} {H : Hp} {vs : List Val} {xs : List V} {i : Int} {v : Val} (r : RVs K m H vs xs) (e : atI vs i = some v) : ∃ x, atI xs i = some x ∧ RV K m H v x := by
  unfold atI at e ⊢
  rw [← r.len]
  cases q : ixN vs.length i with
  | none => rw [q] at e; cases e
  | some j =>
    rw [q] at e
    obtain ⟨x, z1, z2⟩ := r.get (i := j) (v := v) e
    exact ⟨x, z1, z2⟩
theorem Post.ofO {Z : Ev} {m : List Addr} {H : Hp} {h : Hs} {Q : VK} {o : Option Val} {x : V} (p : Post Z m H (ofO o h) Q) (r : Rep Z m h H) : ∃ v, o = some v ∧ (RV Z.K m H v x → Q x H) := by
  cases o with
  | none => exact False.elim p
  | some v => exact ⟨v, rfl, fun rv => p.of r rv⟩
theorem ix_S (hu : X.A.units + 65 < cLine) : IxR X (rBin (zz X nm ca) ixF) := by
  intro value slice pins s σ H x y v u Q I rx ry hq hs
  obtain ⟨m, h, a, b, r, ra, rb, p⟩ := hq
  have lst : ∀ (n : Nat) (t : Addr) (vs : List Val), m[n]? = some t → (h[n]? = some (.lst vs) ∨ h[n]? = some (.frz vs)) → x = .ref t → Post (zz X nm ca) m H (ixL vs b h) Q → wpAny (model X.prog X.w) X.A (subscriptTail value slice v u) (EP X pins σ Q) X.xe s := by
    intro n t vs hn hb ex p
    cases rb with
    | int i =>
      simp only [ixL] at p
      cases e : atI vs i with
      | none => rw [e] at p; exact False.elim p
      | some w =>
        rw [e] at p
        obtain ⟨xs, z1, z2⟩ := r.seqL hn hb
        obtain ⟨y', z3, z4⟩ := atI_rvs z2 e
        exact ix_list value slice pins s σ H _ _ v u Q I rx ry ⟨t, xs, i, y', ex, rfl, z1, z3, p.of r z4⟩ hs
    | _ => exact False.elim p
  cases ra with
  | str z =>
    cases rb with
    | int i =>
      simp only [ixF] at p
      split at p
      · rename_i hc
        cases e : atI z i with
        | none => rw [e] at p; exact False.elim p
        | some c =>
          rw [e] at p
          exact ix_str value slice pins s σ H _ _ v u Q I rx ry ⟨mk z, i, c, rfl, rfl, by rw [mk_len, lim_eq]; exact hc, e, p.of r (.str [c])⟩ hs
      · exact False.elim p
    | _ => exact False.elim p
  | @tup t xs vs h1 h2 =>
    cases rb with
    | int i =>
      simp only [ixF] at p
      cases e : atI vs i with
      | none => rw [e] at p; exact False.elim p
      | some w =>
        rw [e] at p
        obtain ⟨y', z3, z4⟩ := atI_rvs h2 e
        exact ix_tup value slice pins s σ H _ _ v u Q I rx ry ⟨t, xs, i, y', rfl, rfl, h1, z3, p.of r z4⟩ hs
    | _ => exact False.elim p
  | @ref n t h1 =>
    simp only [ixF] at p
    split at p
    · rename_i vs q
      exact lst n t vs h1 (.inl q) rfl p
    · rename_i vs q
      exact lst n t vs h1 (.inr q) rfl p
    · rename_i kvs q
      split at p
      · rename_i k e
        obtain ⟨kxs, z1, z2⟩ := r.dct h1 q
        cases e2 : dget kvs k with
        | none => rw [e2] at p; exact False.elim p
        | some w =>
          rw [e2] at p
          obtain ⟨x', z3, z4⟩ := (z2.get k).1 w e2
          refine ix_dict (by omega) value slice pins s σ H _ _ v u Q I rx ry ⟨t, x', rfl, ?_, p.of r z4⟩ hs
          rw [toKy_rv rb e, ← z3]
          exact DGet.k z1
      · exact False.elim p
    · exact False.elim p
  | non => exact False.elim p
  | bl _ => exact False.elim p
  | int _ => exact False.elim p

/-! ### slices -/
theorem cutS_mk (z : List Nat) (lo hi : Option Int) : cutS (mk z) lo hi = mk (cutL z lo hi) := by
  unfold cutS cutL
  rw [mk_len]
theorem sl_S : SlR X (fun x lo hi H Q => ∃ m h a, Rep (zz X nm ca) m h H ∧ RV X.K m H a x ∧ Post (zz X nm ca) m H (slF a lo hi h) Q) := by
  intro pins s σ H x v vl vu lo hi sl Q I rx hs pl pu hq
  obtain ⟨m, h, a, r, ra, p⟩ := hq
  cases ra with
  | str z =>
    simp only [slF] at p
    split at p
    · rename_i hc
      refine sl_str pins s σ H _ v vl vu lo hi sl Q I rx hs pl pu ⟨mk z, rfl, by rw [mk_len, lim_eq]; exact hc, ?_⟩
      rw [cutS_mk]
      exact p.of r (.str _)
    · exact False.elim p
  | @tup t xs vs h1 h2 =>
    refine sl_tupA pins s σ H _ v vl vu lo hi sl Q I rx hs pl pu ⟨t, xs, rfl, h1, fun hw => ?_, fun _ q hq => ?_⟩
    · have e : cutV xs lo hi = xs := by
        unfold cutV
        rw [hw.1, hw.2]
        simp
      refine p.of r (.tup h1 ?_)
      rw [← e]
      exact h2.cut lo hi
    · exact p.tup r hq (h2.cut lo hi)
  | @ref n t h1 =>
    simp only [slF] at p
    split at p
    · rename_i vs q
      obtain ⟨xs, z1, z2⟩ := r.seqL h1 (.inl q)
      exact sl_list pins s σ H _ v vl vu lo hi sl Q I rx hs pl pu ⟨t, xs, rfl, z1, fun q hq => p.lst r hq (z2.cut lo hi)⟩
    · rename_i vs q
      obtain ⟨xs, z1, z2⟩ := r.seqL h1 (.inr q)
      exact sl_list pins s σ H _ v vl vu lo hi sl Q I rx hs pl pu ⟨t, xs, rfl, z1, fun q hq => p.lst r hq (z2.cut lo hi)⟩
    · exact False.elim p
  | non => exact False.elim p
  | bl _ => exact False.elim p
  | int _ => exact False.elim p

/-! ### stores -/
theorem PostH.set {Z : Ev} {m : List Addr} {H : Hp} {h : Hs} {Q : Hp → Prop} {n : Nat} {a : Addr} {o u : HO} {ob ob' : Ob} (p : PostH Z m H (some (h.set n ob')) Q) (r : Rep Z m h H) (hn : m[n]? = some a) (hb : h[n]? = some ob) (hm : ob.mut = true) (hm' : ob'.mut = true)
    (ha : H a = some u) (h1 : ∀ xs, u ≠ .tup xs) (h2 : ∀ x y, u ≠ .frz x y) (w : ObR Z m (upd H a o) a ob') : Q (upd H a o) :=
  p m _ (ext_mut ha h1 h2) (r.set hn hb hm hm' ha h1 h2 w)
theorem Post.set {Z : Ev} {m : List Addr} {H : Hp} {h : Hs} {Q : VK} {n : Nat} {a : Addr} {o u : HO} {ob ob' : Ob} {v : Val} {x : V} (p : Post Z m H (.ok v (h.set n ob')) Q) (r : Rep Z m h H) (rv : RV Z.K m H v x) (hn : m[n]? = some a) (hb : h[n]? = some ob) (hm : ob.mut = true) (hm' : ob'.mut = true)
    (ha : H a = some u) (h1 : ∀ xs, u ≠ .tup xs) (h2 : ∀ x y, u ≠ .frz x y) (w : ObR Z m (upd H a o) a ob') : Q x (upd H a o) :=
  p m _ _ (ext_mut ha h1 h2) (r.set hn hb hm hm' ha h1 h2 w) (RV.mono (ext_mut ha h1 h2) _ _ rv)
theorem ext_lst {m : List Addr} {H : Hp} {a : Addr} {xs : List V} {o : HO} (ha : H a = some (.lst xs)) : Ext m H m (upd H a o) := ext_mut ha (fun _ z => by cases z) fun _ _ z => by cases z
theorem ext_dct {m : List Addr} {H : Hp} {a : Addr} {xs : List (Key × V)} {o : HO} (ha : H a = some (.dK xs)) : Ext m H m (upd H a o) := ext_mut ha (fun _ z => by cases z) fun _ _ z => by cases z
theorem ext_ins {m : List Addr} {H : Hp} {a C dx : Addr} {fs : List (Str × V)} {o : HO} (ha : H a = some (.ins C dx fs)) : Ext m H m (upd H a o) := ext_mut ha (fun _ z => by cases z) fun _ _ z => by cases z
theorem PSet.or {t t' : TSet} (h : PSet X t) (h' : PSet X t') : PSet X (fun o i v H Q => t o i v H Q ∨ t' o i v H Q) := by
  intro pins s σ H o i v ov iv u Q I ro ri rv q
  rcases q with q | q
  · exact h pins s σ H o i v ov iv u Q I ro ri rv q
  · exact h' pins s σ H o i v ov iv u Q I ro ri rv q
theorem set_dict (hu : X.A.units + 1 < cLine) : PSet X (fun o i v H Q => ∃ a H', o = .ref a ∧ DPut H a i v H' ∧ Q H') := by
  intro pins s σ H o i v ov iv u Q I ro ri rv q
  obtain ⟨a, H', rfl, g, q⟩ := q
  obtain rfl : ov = Value.ref a := ro
  exact d_setItem hu I g ri rv fun s' I' => ⟨H', I', q⟩
theorem set_S (hu : X.A.units + 1 < cLine) : PSet X (fun o i v H Q => ∃ m h a b c, Rep (zz X nm ca) m h H ∧ RV X.K m H a o ∧ RV X.K m H b i ∧ RV X.K m H c v ∧ PostH (zz X nm ca) m H (setF a b c h) Q) := by
  intro pins s σ H o i v ov iv u Q I ro ri rv q
  obtain ⟨m, h, a, b, c, r, ra, rb, rc, p⟩ := q
  cases ra with
  | @ref n t h1 =>
    simp only [setF] at p
    split at p
    · rename_i vs q
      cases rb with
      | int k =>
        simp only at p
        split at p
        · rename_i j e
          obtain ⟨xs, z1, z2⟩ := r.lst h1 q
          refine set_list pins s σ H _ _ v ov iv u Q I ro ri rv ⟨t, xs, k, j, rfl, rfl, z1, by rw [← z2.len]; exact e, ?_⟩
          exact p.set r h1 q rfl rfl z1 (fun _ z => by cases z) (fun _ _ z => by cases z) ⟨_, upd_same, RVs.mono (ext_lst z1) _ _ (z2.set j rc)⟩
        · exact False.elim p
      | _ => exact False.elim p
    · rename_i kvs q
      split at p
      · rename_i k e
        split at p
        · rename_i hc
          obtain ⟨kxs, z1, z2⟩ := r.dct h1 q
          refine set_dict hu pins s σ H _ _ v ov iv u Q I ro ri rv ⟨t, upd H t (.dK (putK kxs (kyK k) v)), rfl, ?_, ?_⟩
          · rw [toKy_rv rb e]
            exact DPut.k z1 (by rw [z2.len, lim_eq]; exact hc)
          · exact p.set r h1 q rfl rfl z1 (fun _ z => by cases z) (fun _ _ z => by cases z) ⟨_, upd_same, (z2.put rc).mono (ext_dct z1)⟩
        · exact False.elim p
      · exact False.elim p
    · exact False.elim p
  | _ => exact False.elim p

/-! ### fields -/
theorem fget_cons (f g : Nat) (v : Val) (r : List (Nat × Val)) : fget ((g, v) :: r) f = if f = g then some v else fget r f := by
  unfold fget
  rw [List.lookup_cons]
  by_cases h : f = g
  · subst h; simp
  · rw [if_neg h]
    have : (f == g) = false := by simpa using h
    rw [this]
theorem FR.get {K : PySem.W.Frag} {m : List Addr} {H : Hp} {f : Nat} {g : Str} {v : Val} (hn : nm[f]? = some g) : ∀ {r : List (Nat × Val)} {s : List (Str × V)}, nm.Nodup → FR nm K m H r s → fget r f = some v → ∃ x, s.lookup g = some x ∧ RV K m H v x
  | _, _, _, .nil, e => by cases e
  | _, _, nd, .cons (f := f1) (g := g1) (v := v1) (x := x1) (r := r) (s := s) h1 a b, e => by
    rw [fget_cons] at e
    by_cases hk : f = f1
    · subst hk
      rw [if_pos rfl] at e
      cases e
      rw [hn] at h1
      cases h1
      exact ⟨x1, by simp, a⟩
    · rw [if_neg hk] at e
      obtain ⟨x, q1, q2⟩ := FR.get hn nd b e
      refine ⟨x, ?_, q2⟩
      rw [List.lookup_cons]
      have : (g == g1) = false := by
        simp only [beq_eq_false_iff_ne, ne_eq]
        intro z
        subst z
        exact hk (L2.nodup_ix nd hn h1)
      rw [this]
      exact q1
theorem FR.none {K : PySem.W.Frag} {m : List Addr} {H : Hp} {f : Nat} {g : Str} (hn : nm[f]? = some g) : ∀ {r : List (Nat × Val)} {s : List (Str × V)}, nm.Nodup → FR nm K m H r s → fget r f = none → s.lookup g = none
  | _, _, _, .nil, _ => rfl
  | _, _, nd, .cons (f := f1) (g := g1) (v := v1) (x := x1) (r := r) (s := s) h1 a b, e => by
    rw [fget_cons] at e
    by_cases hk : f = f1
    · rw [if_pos hk] at e; cases e
    · rw [if_neg hk] at e
      rw [List.lookup_cons]
      have : (g == g1) = false := by
        simp only [beq_eq_false_iff_ne, ne_eq]
        intro z
        subst z
        exact hk (L2.nodup_ix nd hn h1)
      rw [this]
      exact FR.none hn nd b e
theorem FR.len {K : PySem.W.Frag} {m : List Addr} {H : Hp} : ∀ {r : List (Nat × Val)} {s : List (Str × V)}, FR nm K m H r s → s.length = r.length
  | _, _, .nil => rfl
  | _, _, .cons _ _ b => by simp [FR.len b]
theorem FR.put {K : PySem.W.Frag} {m : List Addr} {H : Hp} {f : Nat} {g : Str} {v : Val} {x : V} (hn : nm[f]? = some g) (nd : nm.Nodup) (rv : RV K m H v x) : ∀ {r : List (Nat × Val)} {s : List (Str × V)}, FR nm K m H r s → FR nm K m H (fput f v r) (putF g x s)
  | _, _, .nil => .cons hn rv .nil
  | _, _, .cons (f := f1) (g := g1) (v := v1) (x := x1) (r := r) (s := s) h1 a b => by
    show FR nm K m H (if f1 = f then (f1, v) :: r else (f1, v1) :: fput f v r) (if g1 = g then (g1, x) :: s else (g1, x1) :: putF g x s)
    by_cases hk : f1 = f
    · subst hk
      rw [hn] at h1
      cases h1
      rw [if_pos rfl, if_pos rfl]
      exact .cons hn rv b
    · rw [if_neg hk, if_neg (fun z => hk (by subst z; exact L2.nodup_ix nd h1 hn))]
      exact .cons h1 a (FR.put hn nd rv b)
theorem Rep.ins {Z : Ev} {m : List Addr} {h : Hs} {H : Hp} (r : Rep Z m h H) {n : Nat} {a : Addr} {c : Nat} {fs : List (Nat × Val)} (hn : m[n]? = some a) (hb : h[n]? = some (.ins c fs)) : ∃ dx fx, H a = some (.ins (Z.ca c) dx fx) ∧ FR Z.nm Z.K m H fs fx ∧ Cls Z.K (Z.ca c) ∧ ∀ q ∈ fx, NoAttr Z.K (Z.ca c) q.1 := r.at_ hn hb
theorem putF_mem {g : Str} {x : V} {q : Str × V} : ∀ {s : List (Str × V)}, q ∈ putF g x s → q.1 = g ∨ ∃ y ∈ s, y.1 = q.1
  | [], h => .inl (by have : q = (g, x) := by simpa [putF] using h
                      rw [this])
  | (k, y) :: r, h => by
    rw [show putF g x ((k, y) :: r) = (if k = g then (k, x) :: r else (k, y) :: putF g x r) from rfl] at h
    split at h
    · rcases List.mem_cons.mp h with e | h
      · exact .inr ⟨(k, y), List.mem_cons_self, by rw [e]⟩
      · exact .inr ⟨q, List.mem_cons_of_mem _ h, rfl⟩
    · rcases List.mem_cons.mp h with e | h
      · exact .inr ⟨(k, y), List.mem_cons_self, by rw [e]⟩
      · rcases putF_mem h with e | ⟨z, hz, e⟩
        · exact .inl e
        · exact .inr ⟨z, List.mem_cons_of_mem _ hz, e⟩

/-! ### built-in functions -/
theorem insI_perm (x : Int) : ∀ l : List Int, (insI x l).Perm (x :: l)
  | [] => .refl _
  | y :: r => by
    unfold insI
    split
    · exact .refl _
    · exact ((insI_perm x r).cons y).trans (.swap x y r)
theorem srtI_perm : ∀ l : List Int, (srtI l).Perm l
  | [] => .refl _
  | x :: r => (insI_perm x (srtI r)).trans ((srtI_perm r).cons x)
theorem insI_pw (x : Int) : ∀ l : List Int, l.Pairwise (· ≤ ·) → (insI x l).Pairwise (· ≤ ·)
  | [], _ => by simp [insI]
  | y :: r, h => by
    unfold insI
    rw [List.pairwise_cons] at h
    split
    · rename_i hx
      rw [List.pairwise_cons, List.pairwise_cons]
      refine ⟨fun z hz => ?_, h⟩
      rcases List.mem_cons.mp hz with e | hz
      · subst e; exact hx
      · exact Int.le_trans hx (h.1 z hz)
    · rename_i hx
      rw [List.pairwise_cons]
      refine ⟨fun z hz => ?_, insI_pw x r h.2⟩
      rcases List.mem_cons.mp ((insI_perm x r).mem_iff.mp hz) with e | hz
      · subst e; omega
      · exact h.1 z hz
theorem srtI_pw : ∀ l : List Int, (srtI l).Pairwise (· ≤ ·)
  | [] => .nil
  | x :: r => insI_pw x _ (srtI_pw r)
theorem perm_srt {l l' : List Int} (hp : l.Perm l') (h : l.Pairwise (· ≤ ·)) (h' : l'.Pairwise (· ≤ ·)) : l = l' :=
  hp.eq_of_pairwise (fun a b _ _ h1 h2 => Int.le_antisymm h1 h2) h h'
theorem srt_eq {l l' : List Int} (hp : l.Perm l') (h : l.Pairwise (· ≤ ·)) : l = srtI l' := perm_srt (hp.trans (srtI_perm l').symm) h (srtI_pw l')
/-! the least, the greatest of a tuple of ints -/
theorem mnI_spec : ∀ {ns : List Int} {m : Int}, mnI ns = some m → m ∈ ns ∧ ∀ y ∈ ns, m ≤ y
  | [], _, h => by cases h
  | x :: r, m, h => by
    unfold mnI at h
    cases q : mnI r with
    | none =>
      rw [q] at h
      cases h
      cases r with
      | nil => exact ⟨List.mem_cons_self, fun y hy => by (rcases List.mem_cons.mp hy with e | hy; (subst e; exact Int.le_refl _); cases hy)⟩
      | cons z t => unfold mnI at q; split at q <;> cases q
    | some k =>
      rw [q] at h
      cases h
      obtain ⟨h1, h2⟩ := mnI_spec q
      by_cases hk : k < x
      · simp only [if_pos hk]
        exact ⟨List.mem_cons_of_mem _ h1, fun y hy => by (rcases List.mem_cons.mp hy with e | hy; (subst e; omega); exact h2 y hy)⟩
      · simp only [if_neg hk]
        exact ⟨List.mem_cons_self, fun y hy => by (rcases List.mem_cons.mp hy with e | hy; (subst e; exact Int.le_refl _); (have := h2 y hy; omega))⟩
theorem mxI_spec : ∀ {ns : List Int} {m : Int}, mxI ns = some m → m ∈ ns ∧ ∀ y ∈ ns, y ≤ m
  | [], _, h => by cases h
  | x :: r, m, h => by
    unfold mxI at h
    cases q : mxI r with
    | none =>
      rw [q] at h
      cases h
      cases r with
      | nil => exact ⟨List.mem_cons_self, fun y hy => by (rcases List.mem_cons.mp hy with e | hy; (subst e; exact Int.le_refl _); cases hy)⟩
      | cons z t => unfold mxI at q; split at q <;> cases q
    | some k =>
      rw [q] at h
      cases h
      obtain ⟨h1, h2⟩ := mxI_spec q
      by_cases hk : x < k
      · simp only [if_pos hk]
        exact ⟨List.mem_cons_of_mem _ h1, fun y hy => by (rcases List.mem_cons.mp hy with e | hy; (subst e; omega); exact h2 y hy)⟩
      · simp only [if_neg hk]
        exact ⟨List.mem_cons_self, fun y hy => by (rcases List.mem_cons.mp hy with e | hy; (subst e; exact Int.le_refl _); (have := h2 y hy; omega))⟩
theorem mnI_uniq {ns : List Int} {m k : Int} (h : mnI ns = some m) (h1 : k ∈ ns) (h2 : ∀ y ∈ ns, k ≤ y) : k = m := by
  obtain ⟨a, b⟩ := mnI_spec h
  have := b k h1
  have := h2 m a
  omega
theorem mxI_uniq {ns : List Int} {m k : Int} (h : mxI ns = some m) (h1 : k ∈ ns) (h2 : ∀ y ∈ ns, y ≤ k) : k = m := by
  obtain ⟨a, b⟩ := mxI_spec h
  have := b k h1
  have := h2 m a
  omega
theorem mnI_pos {ns : List Int} {m : Int} (h : mnI ns = some m) : 0 < ns.length := by cases ns with | nil => cases h | cons _ _ => exact Nat.succ_pos _
theorem mxI_pos {ns : List Int} {m : Int} (h : mxI ns = some m) : 0 < ns.length := by cases ns with | nil => cases h | cons _ _ => exact Nat.succ_pos _
section
variable {prog : Program} {w : World} {A : Around} {E : Value → Shared → Prop} {s : Shared} {l : Addr} {xs : Array (Int × Tok)}
theorem iter_intTup {Q : Value → Shared → Prop} (hl : s.heap.IsTuple l (intItems xs))
    (h : ∀ s₂ : Shared, s₂ = { s with heap := s.heap.push { cls := .type "tuple_iterator", data := .fields #[.ref l, .int 0 0] } } →
      (s₂.heap.IsTupleIter s.heap.objs.size l 0 ∧ s₂.heap.IsTuple l (intItems xs)) → (∀ b ∈ [s.heap.objs.size, l], b < s₂.heap.objs.size) → l ≠ s.heap.objs.size → Q (.ref s.heap.objs.size) s₂) :
    wpAny (model prog w) A (pyIter (.ref l)) Q E s := by
  have hlt : l < s.heap.objs.size := by obtain ⟨_, e, _⟩ := hl; exact Heap.lt_size e
  refine wpAny_pyIter_tuple hl (h _ rfl ⟨⟨_, Heap.get?_push_size _ rfl, rfl, rfl⟩, hl.push _⟩ (fun b hb => ?_) (Nat.ne_of_lt hlt))
  show b < (s.heap.push _).objs.size
  rw [Heap.size_push]
  rcases List.mem_cons.mp hb with rfl | hb
  · exact Nat.lt_succ_self _
  · rcases List.mem_cons.mp hb with rfl | hb
    · exact Nat.lt_succ_of_lt hlt
    · cases hb
theorem old_keptT {h' : Heap} (hk : ∀ b o, b ∉ [s.heap.objs.size] → (s.heap.push { cls := .type "tuple_iterator", data := .fields #[.ref l, .int 0 0] }).get? b = some o → h'.get? b = some o) :
    ∀ b o, s.heap.get? b = some o → h'.get? b = some o := fun b o e => by
  refine hk b o (fun hm => ?_) (Heap.get?_push_of_some _ e)
  rcases List.mem_cons.mp hm with e1 | hm
  · exact absurd (e1 ▸ Heap.lt_size e) (Nat.lt_irrefl _)
  · cases hm
theorem max_intTup {Q : Value → Shared → Prop} (hh : A.handled = none) (hl : s.heap.IsTuple l (intItems xs)) (hne : 0 < xs.size)
    (h : ∀ v h' tk, (intItems xs)[argBest (fun i j => decide (numAt xs i > numAt xs j)) (xs.size - 1)]? = some v → (∀ b o, s.heap.get? b = some o → h'.get? b = some o) → Q v { s with heap := h', toks := tk }) :
    wpAny (model prog w) A (call (.builtin "max") [.ref l]) Q E s := by
  refine call_max_walk (iter_intTup hl fun s₂ e st hfp hlI => ?_)
  subst e
  refine ⟨_, _, _, _, _, _, _, rfl, Walks.tuple (A := A.in1) hh _ l hlI (intItems xs), st, hfp, by simpa [intItems] using hne, CmpOf.ints_gt (numAt xs) (fun _ _ => intItems_at), fun v h' tk hP hk => ?_⟩
  exact h v h' tk (by simpa [intItems] using hP) (old_keptT hk)
theorem min_intTup {Q : Value → Shared → Prop} (hh : A.handled = none) (hl : s.heap.IsTuple l (intItems xs)) (hne : 0 < xs.size)
    (h : ∀ v h' tk, (intItems xs)[argBest (fun i j => decide (numAt xs i < numAt xs j)) (xs.size - 1)]? = some v → (∀ b o, s.heap.get? b = some o → h'.get? b = some o) → Q v { s with heap := h', toks := tk }) :
    wpAny (model prog w) A (call (.builtin "min") [.ref l]) Q E s := by
  refine call_min_walk (iter_intTup hl fun s₂ e st hfp hlI => ?_)
  subst e
  refine ⟨_, _, _, _, _, _, _, rfl, Walks.tuple (A := A.in1) hh _ l hlI (intItems xs), st, hfp, by simpa [intItems] using hne, CmpOf.ints_lt (numAt xs) (fun _ _ => intItems_at), fun v h' tk hP hk => ?_⟩
  exact h v h' tk (by simpa [intItems] using hP) (old_keptT hk)
theorem maxT_raw {its : List Value} {ns : List Int} {Q : Value → Shared → Prop} (hh : A.handled = none) (hl : s.heap.IsTuple l its.toArray) (hi : IntsAre its ns) (hne : 0 < ns.length)
    (h : ∀ h' tk M t', (∀ b o, s.heap.get? b = some o → h'.get? b = some o) → M ∈ ns → (∀ a, a ∈ ns → a ≤ M) → Q (.int M t') { s with heap := h', toks := tk }) : wpAny (model prog w) A (call (.builtin "max") [.ref l]) Q E s := by
  obtain ⟨xs, e⟩ := hi.allInts.items
  have hn : numsOf (intItems xs).toList = ns := by rw [← e]; exact hi.numsOf
  rw [nums_intItems] at hn
  subst hn
  rw [e] at hl
  have hsz : 0 < xs.size := by simpa using hne
  refine max_intTup hh hl hsz fun v h' tk hv hk => ?_
  obtain ⟨t, rfl⟩ := intItems_at hv
  obtain ⟨h1, h2⟩ := argBest_gt (numAt xs) (xs.size - 1)
  refine h h' tk _ t hk ?_ fun a ha => ?_
  · rw [numAt_eq]; exact PySem.getD_mem (by rw [List.length_map, Array.length_toList]; omega)
  · obtain ⟨j, hj, rfl⟩ := mem_getD ha
    rw [List.length_map, Array.length_toList] at hj
    rw [← numAt_eq]; exact h2 j (by omega)
theorem minT_raw {its : List Value} {ns : List Int} {Q : Value → Shared → Prop} (hh : A.handled = none) (hl : s.heap.IsTuple l its.toArray) (hi : IntsAre its ns) (hne : 0 < ns.length)
    (h : ∀ h' tk M t', (∀ b o, s.heap.get? b = some o → h'.get? b = some o) → M ∈ ns → (∀ a, a ∈ ns → M ≤ a) → Q (.int M t') { s with heap := h', toks := tk }) : wpAny (model prog w) A (call (.builtin "min") [.ref l]) Q E s := by
  obtain ⟨xs, e⟩ := hi.allInts.items
  have hn : numsOf (intItems xs).toList = ns := by rw [← e]; exact hi.numsOf
  rw [nums_intItems] at hn
  subst hn
  rw [e] at hl
  have hsz : 0 < xs.size := by simpa using hne
  refine min_intTup hh hl hsz fun v h' tk hv hk => ?_
  obtain ⟨t, rfl⟩ := intItems_at hv
  obtain ⟨h1, h2⟩ := argBest_lt (numAt xs) (xs.size - 1)
  refine h h' tk _ t hk ?_ fun a ha => ?_
  · rw [numAt_eq]; exact PySem.getD_mem (by rw [List.length_map, Array.length_toList]; omega)
  · obtain ⟨j, hj, rfl⟩ := mem_getD ha
    rw [List.length_map, Array.length_toList] at hj
    rw [← numAt_eq]; exact h2 j (by omega)
end
def rMaxT (K : PySem.W.Frag) : List V → Hp → VK → Prop := fun vs H Q => ∃ (a : Addr) (ns : List Int), vs = [V.ref a] ∧ SqT K H a (ns.map V.int) ∧ 0 < ns.length ∧ ∀ m, m ∈ ns → (∀ y, y ∈ ns → y ≤ m) → Q (.int m) H
def rMinT (K : PySem.W.Frag) : List V → Hp → VK → Prop := fun vs H Q => ∃ (a : Addr) (ns : List Int), vs = [V.ref a] ∧ SqT K H a (ns.map V.int) ∧ 0 < ns.length ∧ ∀ m, m ∈ ns → (∀ y, y ∈ ns → m ≤ y) → Q (.int m) H
theorem tup_isT {h : Heap} {a : Addr} {its : Array Value} (p : IsTup h a its) : h.IsTuple a its := p
theorem cr_maxT (hc : X.calm = true) : CallR X (.builtin "max") (rMaxT X.K) := by
  intro pins s σ H vs us Q I r h
  obtain ⟨a, ns, rfl, hs, hne, q⟩ := h
  obtain ⟨its, rv, hl, _⟩ := I.tuple hs
  rw [Vals.ref1 r]
  exact maxT_raw (I.ok.hd hc) (tup_isT hl) rv.ints hne fun h' tk m t' hk h1 h2 => ⟨.int _, H, I.kept hk, ⟨_, rfl⟩, q m h1 h2⟩
theorem cr_minT (hc : X.calm = true) : CallR X (.builtin "min") (rMinT X.K) := by
  intro pins s σ H vs us Q I r h
  obtain ⟨a, ns, rfl, hs, hne, q⟩ := h
  obtain ⟨its, rv, hl, _⟩ := I.tuple hs
  rw [Vals.ref1 r]
  exact minT_raw (I.ok.hd hc) (tup_isT hl) rv.ints hne fun h' tk m t' hk h1 h2 => ⟨.int _, H, I.kept hk, ⟨_, rfl⟩, q m h1 h2⟩
def rPrim (Z : Ev) (p : Prim) : List V → Hp → VK → Prop := fun xs H Q => ∃ m h vs, Rep Z m h H ∧ RVs Z.K m H vs xs ∧ Post Z m H (primF p vs h) Q
def primV : Prim → Value
  | .len => .builtin "len"
  | .int => .type "int"
  | .abs => .builtin "abs"
  | .min => .builtin "min"
  | .max => .builtin "max"
  | .str => .type "str"
  | .tuple => .type "tuple"
  | .list => .type "list"
  | .sum => .builtin "sum"
  | .sorted => .builtin "sorted"
  | .ord => .builtin "ord"
  | .min1 => .builtin "min"
  | .max1 => .builtin "max"
theorem dr_ints {K : PySem.W.Frag} {m : List Addr} {H : Hp} : ∀ {kvs : List (Ky × Val)} {kxs : List (Key × V)} {ns : List Int}, DR K m H kvs kxs → isInts (kvs.map fun q => ofKy q.1) = some ns → kxs.map (·.1) = ns.map Sum.inl
  | _, _, _, .nil, e => by cases e; rfl
  | _, _, ns, .cons (k := k) a b, e => by
    cases k with
    | inl i =>
      simp only [List.map_cons, ofKy, isInts, Option.map_eq_some_iff] at e
      obtain ⟨ms, e1, e2⟩ := e
      subst e2
      rw [List.map_cons, List.map_cons, dr_ints b e1]
      rfl
    | inr s => simp [ofKy, isInts] at e
theorem len_ok {Z : Ev} {m : List Addr} {h : Hs} {H : Hp} {v : Val} {x : V} {ws : List Val} (r : Rep Z m h H) (rv : RV Z.K m H v x) (e : seqOf h v = some ws) : LenV Z.K x H ws.length := by
  obtain ⟨a, xs, rfl, z1, z2⟩ := r.seq rv e
  rcases z1 with z1 | z1
  · exact .inl ⟨xs, z1, z2.len⟩
  · exact .inr ⟨xs, z1, z2.len⟩
/-! pairs -/
theorem insP_perm (x : Int × Int) : ∀ l : List (Int × Int), (insP x l).Perm (x :: l)
  | [] => List.Perm.refl _
  | y :: r => by
    unfold insP
    split
    · exact List.Perm.refl _
    · exact ((insP_perm x r).cons y).trans (List.Perm.swap x y r)
theorem srtP_perm : ∀ l : List (Int × Int), (srtP l).Perm l
  | [] => List.Perm.refl _
  | x :: r => (insP_perm x _).trans ((srtP_perm r).cons x)
theorem prLe_total (p q : Int × Int) (h : ¬ prLe p q = true) : prLe q p = true := by
  unfold prLe at *
  simp only [Bool.or_eq_true, Bool.and_eq_true, decide_eq_true_eq, not_or, not_and] at *
  omega
theorem prLe_trans {p q r : Int × Int} (h : prLe p q = true) (h' : prLe q r = true) : prLe p r = true := by
  unfold prLe at *
  simp only [Bool.or_eq_true, Bool.and_eq_true, decide_eq_true_eq] at *
  omega
theorem insP_pw (x : Int × Int) : ∀ l : List (Int × Int), l.Pairwise (fun p q => prLe p q = true) → (insP x l).Pairwise (fun p q => prLe p q = true)
  | [], _ => List.pairwise_singleton _ _
  | y :: r, h => by
    have h' := List.pairwise_cons.mp h
    unfold insP
    split
    · rename_i c
      refine List.pairwise_cons.mpr ⟨fun z hz => ?_, h⟩
      rcases List.mem_cons.mp hz with rfl | hz
      · exact c
      · exact prLe_trans c (h'.1 z hz)
    · rename_i c
      refine List.pairwise_cons.mpr ⟨fun z hz => ?_, insP_pw x r h'.2⟩
      rcases List.mem_cons.mp ((insP_perm x r).mem_iff.mp hz) with rfl | hz
      · exact prLe_total _ _ c
      · exact h'.1 z hz
theorem srtP_pw : ∀ l : List (Int × Int), (srtP l).Pairwise (fun p q => prLe p q = true)
  | [] => List.Pairwise.nil
  | x :: r => insP_pw x _ (srtP_pw r)
theorem prLe_anti {p q : Int × Int} (h : prLe p q = true) (h' : prLe q p = true) : p = q := by
  unfold prLe at *
  simp only [Bool.or_eq_true, Bool.and_eq_true, decide_eq_true_eq] at *
  exact Prod.ext (by omega) (by omega)
theorem srtP_eq {l l' : List (Int × Int)} (hp : l.Perm l') (h : l.Pairwise (fun p q => prLe p q = true)) : l = srtP l' :=
  (hp.trans (srtP_perm l').symm).eq_of_pairwise (fun _ _ _ _ a b => prLe_anti a b) h (srtP_pw l')
theorem code2 (i j : Int) : TS.code 1099511627776 [i, j] = i * 1099511627776 + j := by
  have e1 : (1099511627776 : Int) ^ 1 = 1099511627776 := by decide
  have e0 : (1099511627776 : Int) ^ 0 = 1 := by decide
  show i * 1099511627776 ^ 1 + (j * 1099511627776 ^ 0 + 0) = _
  rw [e1, e0, Int.mul_one, Int.add_zero]
theorem prLe_code {p q : Int × Int} (hp : prOk p = true) (hq : prOk q = true) (h : TS.code 1099511627776 [p.1, p.2] ≤ TS.code 1099511627776 [q.1, q.2]) : prLe p q = true := by
  rw [code2, code2] at h
  unfold prOk at hp hq
  unfold prLe
  simp only [Bool.or_eq_true, Bool.and_eq_true, decide_eq_true_eq] at *
  omega
/-- the values of pairs -/
def PrI (K : PySem.W.Frag) (H : Hp) (x : V) (p : Int × Int) : Prop := TupI K H x [p.1, p.2]
theorem prs_of {K : PySem.W.Frag} {m : List Addr} {H : Hp} : ∀ {vs : List Val} {xs : List V} {ps : List (Int × Int)}, isPrs vs = some ps → RVs K m H vs xs → Paired (fun x p => PrI K H x p) xs ps
  | [], _, _, e, h => by cases h; simp [isPrs] at e; subst e; exact .nil
  | v :: vs, _, ps, e, h => by
    cases h with
    | cons h1 h2 =>
      unfold isPrs at e
      split at e
      · rename_i q; cases q
      · rename_i i j r q
        cases q
        rw [Option.map_eq_some_iff] at e
        obtain ⟨qs, e1, rfl⟩ := e
        cases h1 with
        | tup k1 k2 =>
          have : (_ : List V) = [i, j].map V.int := k2.ints (ns := [i, j]) rfl
          exact .cons ⟨_, rfl, by rw [this] at k1; exact k1⟩ (prs_of e1 h2)
      · cases e
theorem prs_at {K : PySem.W.Frag} {m : List Addr} {H : Hp} {vs : List Val} {xs : List V} {ps : List (Int × Int)} (e : isPrs vs = some ps) (hk : ps.all prOk = true) (h : RVs K m H vs xs) :
    ps.length = xs.length ∧ ∀ x ∈ xs, ∃ ns, TupI K H x ns ∧ ns.length = 2 ∧ TS.Bd 1099511627776 ns := by
  have P := prs_of e h
  refine ⟨P.length.symm, fun x hx => ?_⟩
  have key : ∀ {xs : List V} {ps : List (Int × Int)}, Paired (fun x p => PrI K H x p) xs ps → ps.all prOk = true → ∀ x ∈ xs, ∃ p, PrI K H x p ∧ prOk p = true := by
    intro xs ps P
    induction P with
    | nil => intro _ x hx; cases hx
    | cons r t ih =>
      intro hk x hx
      rw [List.all_cons, Bool.and_eq_true] at hk
      rcases List.mem_cons.mp hx with rfl | hx
      · exact ⟨_, r, hk.1⟩
      · exact ih hk.2 x hx
  obtain ⟨p, h1, h2⟩ := key P hk x hx
  refine ⟨_, h1, rfl, fun k hk => ?_⟩
  unfold prOk at h2
  rw [decide_eq_true_eq] at h2
  simp only [List.mem_cons, List.not_mem_nil, or_false] at hk
  rcases hk with rfl | rfl <;> omega
theorem prs_perm {K : PySem.W.Frag} {H : Hp} {ys xs : List V} (hp : ys.Perm xs) : ∀ {ps : List (Int × Int)}, Paired (fun x p => PrI K H x p) xs ps → ∃ qs, Paired (fun x p => PrI K H x p) ys qs ∧ qs.Perm ps := by
  induction hp with
  | nil => intro ps P; exact ⟨ps, P, List.Perm.refl _⟩
  | cons x _ ih =>
    intro ps P
    cases P with
    | cons r t =>
      obtain ⟨qs, h1, h2⟩ := ih t
      exact ⟨_ :: qs, .cons r h1, h2.cons _⟩
  | swap x y l =>
    intro ps P
    cases P with
    | cons r t =>
      cases t with
      | cons r2 t2 => exact ⟨_, .cons r2 (.cons r t2), List.Perm.swap _ _ _⟩
  | trans _ _ ih1 ih2 =>
    intro ps P
    obtain ⟨qs, h1, h2⟩ := ih2 P
    obtain ⟨rs, h3, h4⟩ := ih1 h1
    exact ⟨rs, h3, h4.trans h2⟩
theorem prs_pw {K : PySem.W.Frag} {H : Hp} : ∀ {ys : List V} {qs : List (Int × Int)}, Paired (fun x p => PrI K H x p) ys qs → qs.all prOk = true →
    ys.Pairwise (fun x y => ∀ n m, TupI K H x n → TupI K H y m → TS.code 1099511627776 n ≤ TS.code 1099511627776 m) → qs.Pairwise (fun p q => prLe p q = true)
  | _, _, .nil, _, _ => List.Pairwise.nil
  | _, _, .cons r t, hk, hw => by
    rw [List.all_cons, Bool.and_eq_true] at hk
    have hw' := List.pairwise_cons.mp hw
    refine List.pairwise_cons.mpr ⟨fun q hq => ?_, prs_pw t hk.2 hw'.2⟩
    have key : ∀ {ys : List V} {qs : List (Int × Int)}, Paired (fun x p => PrI K H x p) ys qs → q ∈ qs → ∃ y ∈ ys, PrI K H y q := by
      intro ys qs P
      induction P with
      | nil => intro h; cases h
      | cons r t ih =>
        intro h
        rcases List.mem_cons.mp h with rfl | h
        · exact ⟨_, List.mem_cons_self, r⟩
        · obtain ⟨y, h1, h2⟩ := ih h
          exact ⟨y, List.mem_cons_of_mem _ h1, h2⟩
    obtain ⟨y, h1, h2⟩ := key t hq
    exact prLe_code hk.1 (List.all_eq_true.mp hk.2 q hq) (hw'.1 y h1 _ _ r h2)
theorem prs_rvs {K : PySem.W.Frag} {m : List Addr} {H : Hp} : ∀ {ys : List V} {qs : List (Int × Int)}, Paired (fun x p => PrI K H x p) ys qs → RVs K m H (qs.map prV) ys
  | _, _, .nil => .nil
  | _, _, .cons r t => by
    obtain ⟨a, rfl, h⟩ := r
    exact .cons (.tup h (rvs_ints [_, _])) (prs_rvs t)
theorem prs_srt {K : PySem.W.Frag} {m : List Addr} {H : Hp} {vs : List Val} {xs ys : List V} {ps : List (Int × Int)} (e : isPrs vs = some ps) (hk : ps.all prOk = true) (h : RVs K m H vs xs) (hp : ys.Perm xs)
    (hw : ys.Pairwise (fun x y => ∀ n m, TupI K H x n → TupI K H y m → TS.code 1099511627776 n ≤ TS.code 1099511627776 m)) : RVs K m H ((srtP ps).map prV) ys := by
  obtain ⟨qs, h1, h2⟩ := prs_perm hp (prs_of e h)
  have hq : qs.all prOk = true := by
    rw [List.all_eq_true] at hk ⊢
    exact fun q m => hk q (h2.mem_iff.mp m)
  rw [← srtP_eq h2 (prs_pw h1 hq hw)]
  exact prs_rvs h1
theorem prim_S (hc : X.calm = true) (p : Prim) : CallR X (primV p) (rPrim (zz X nm ca) p) := by
  intro pins s σ H xs us Q I rs hq
  obtain ⟨m, h, vs, r, rv, q⟩ := hq
  cases p with
  | len =>
    cases rv with
    | nil => exact False.elim q
    | cons r1 r2 =>
      cases r2 with
      | cons _ _ => cases r1 <;> exact False.elim q
      | nil =>
        have dc : ∀ (v : Val) (x : V), RV X.K m H v x → Vals [x] us → Post (zz X nm ca) m H (match seqOf h v with
            | some ws => .ok (.int ws.length) h
            | none => (match dctOf h v with
              | some kvs => .ok (.int kvs.length) h
              | none => .stk)) Q → wpAny (model X.prog X.w) X.A (call (primV .len) us) (EP X pins σ Q) X.xe s := by
          intro v x rv rs q
          split at q
          · rename_i ws e
            exact call_len pins s σ H [x] us Q I rs ⟨x, ws.length, rfl, len_ok r rv e, q.of r (.int _)⟩
          · split at q
            · rename_i kvs e
              obtain ⟨a, kxs, z1, z2, z3⟩ := dctOf_rv r rv e
              exact call_lenD pins s σ H [x] us Q I rs ⟨a, kxs, by rw [z1], z2, by rw [z3.len]; exact q.of r (.int _)⟩
            · exact False.elim q
        cases r1 with
        | str z =>
          simp only [primF] at q
          split at q
          · rename_i hl
            exact call_len pins s σ H _ us Q I rs ⟨_, z.length, rfl, ⟨by rw [mk_len, lim_eq]; exact hl, by rw [mk_len]⟩, q.of r (.int _)⟩
          · exact False.elim q
        | non => exact dc _ _ .non rs q
        | bl b => exact dc _ _ (.bl b) rs q
        | int i => exact dc _ _ (.int i) rs q
        | tup h1 h2 => exact dc _ _ (.tup h1 h2) rs q
        | ref h1 => exact dc _ _ (.ref h1) rs q
  | int =>
    cases rv with
    | nil => exact False.elim q
    | cons r1 r2 =>
      cases r2 with
      | cons _ _ => cases r1 <;> exact False.elim q
      | nil =>
        cases r1 with
        | int i => exact call_int1 pins s σ H _ us Q I rs (.inl ⟨i, rfl, q.of r (.int _)⟩)
        | bl b => exact call_int1 pins s σ H _ us Q I rs (.inr ⟨b, rfl, q.of r (.int _)⟩)
        | str z =>
          simp only [primF] at q
          split at q
          · rename_i n e
            split at q
            · rename_i hl
              exact call_int_str pins s σ H _ us Q I rs ⟨mk z, n, rfl, e, by rw [mk_len]; exact hl, q.of r (.int _)⟩
            · exact False.elim q
          · exact False.elim q
        | _ => exact False.elim q
  | abs =>
    cases rv with
    | nil => exact False.elim q
    | cons r1 r2 =>
      cases r2 with
      | cons _ _ => cases r1 <;> exact False.elim q
      | nil =>
        cases r1 with
        | int i => exact call_abs pins s σ H _ us Q I rs ⟨i, rfl, q.of r (.int _)⟩
        | _ => exact False.elim q
  | min =>
    cases rv with
    | nil => exact False.elim q
    | cons r1 r2 =>
      cases r1 with
      | int i =>
        cases r2 with
        | nil => exact False.elim q
        | cons r3 r4 =>
          cases r3 with
          | int j =>
            cases r4 with
            | nil => exact call_min2 hc pins s σ H _ us Q I rs ⟨i, j, rfl, q.of r (.int _)⟩
            | cons _ _ => exact False.elim q
          | _ => exact False.elim q
      | _ => cases r2 <;> exact False.elim q
  | max =>
    cases rv with
    | nil => exact False.elim q
    | cons r1 r2 =>
      cases r1 with
      | int i =>
        cases r2 with
        | nil => exact False.elim q
        | cons r3 r4 =>
          cases r3 with
          | int j =>
            cases r4 with
            | nil => exact call_max2 hc pins s σ H _ us Q I rs ⟨i, j, rfl, q.of r (.int _)⟩
            | cons _ _ => exact False.elim q
          | _ => exact False.elim q
      | _ => cases r2 <;> exact False.elim q
  | str =>
    cases rv with
    | nil => exact False.elim q
    | cons r1 r2 =>
      cases r2 with
      | cons _ _ => cases r1 <;> exact False.elim q
      | nil =>
        cases r1 with
        | int i =>
          simp only [primF] at q
          split at q
          · rename_i hl
            refine call_str_int pins s σ H _ us Q I rs ⟨i, rfl, hl, ?_⟩
            have z := q.of r (.str _)
            rw [show mk (numS i) = (toString i : Str) from mk_of _] at z
            exact z
          · exact False.elim q
        | _ => exact False.elim q
  | tuple =>
    cases rv with
    | nil => exact False.elim q
    | cons r1 r2 =>
      rename_i v vs x xs
      cases r2 with
      | cons _ _ => exact False.elim q
      | nil =>
        simp only [primF] at q
        cases e : seqOf h v with
        | none => rw [e] at q; exact False.elim q
        | some ws =>
          rw [e] at q
          obtain ⟨a, ys, z1, z2, z3⟩ := r.seq r1 e
          subst z1
          rcases z2 with z2 | z2
          · exact call_tuple_of pins s σ H _ us Q I rs ⟨a, ys, rfl, .inl ⟨z2, fun l hl => q.tup r hl z3⟩⟩
          · exact call_tuple_of pins s σ H _ us Q I rs ⟨a, ys, rfl, .inr ⟨z2, q.of r (.tup z2 z3)⟩⟩
  | list =>
    cases rv with
    | nil => exact False.elim q
    | cons r1 r2 =>
      rename_i v vs x xs
      cases r2 with
      | cons _ _ => exact False.elim q
      | nil =>
        simp only [primF] at q
        split at q
        · rename_i ws e
          obtain ⟨a, ys, z1, z2, z3⟩ := r.seq r1 e
          subst z1
          exact call_list_of pins s σ H _ us Q I rs ⟨a, ys, rfl, z2, fun l hl => q.lst r hl z3⟩
        · exact False.elim q
  | sum =>
    cases rv with
    | nil => exact False.elim q
    | cons r1 r2 =>
      cases r2 with
      | cons _ _ => cases r1 <;> exact False.elim q
      | nil =>
        cases r1 with
        | @ref n a h1 =>
          simp only [primF] at q
          split at q
          · rename_i ws e
            split at q
            · rename_i ns e2
              obtain ⟨b, ys, z1, z2, z3⟩ := r.seq (.ref h1) e
              cases z1
              have z4 := z3.ints e2
              rcases z2 with z2 | z2
              · exact cr_sum hc pins s σ H _ us Q I rs ⟨a, ns, rfl, by rw [← z4]; exact z2, q.of r (.int _)⟩
              · obtain ⟨zs, y1, y2⟩ : ∃ zs, SqL X.K H a zs ∧ RVs X.K m H ws zs := by
                  simp only [seqOf] at e
                  split at e
                  · rename_i w' e'
                    cases e
                    exact r.seqL h1 (.inl e')
                  · rename_i w' e'
                    cases e
                    exact r.seqL h1 (.inr e')
                  · cases e
                exact cr_sum hc pins s σ H _ us Q I rs ⟨a, ns, rfl, by rw [← y2.ints e2]; exact y1, q.of r (.int _)⟩
            · exact False.elim q
          · exact False.elim q
        | _ => exact False.elim q
  | sorted =>
    cases rv with
    | nil => exact False.elim q
    | cons r1 r2 =>
      cases r2 with
      | cons _ _ => cases r1 <;> exact False.elim q
      | nil =>
        cases r1 with
        | @ref n a h1 =>
          simp only [primF] at q
          split at q
          · rename_i ws e
            split at q
            · rename_i ns e2
              split at q
              · rename_i h64
                obtain ⟨zs, y1, y2⟩ : ∃ zs, SqL X.K H a zs ∧ RVs X.K m H ws zs := by
                  simp only [seqOf] at e
                  split at e
                  · rename_i w' e'
                    cases e
                    exact r.seqL h1 (.inl e')
                  · rename_i w' e'
                    cases e
                    exact r.seqL h1 (.inr e')
                  · cases e
                refine cr_sorted pins s σ H _ us Q I rs ⟨a, ns, rfl, by rw [← y2.ints e2]; exact y1, h64, fun ns' p hp hw hn => ?_⟩
                rw [srt_eq hp hw]
                exact q.lst r hn (rvs_ints _)
              · exact False.elim q
            · unfold srtPF at q
              split at q
              · rename_i ps e2
                split at q
                · rename_i hc2
                  obtain ⟨zs, y1, y2⟩ : ∃ zs, SqL X.K H a zs ∧ RVs X.K m H ws zs := by
                    simp only [seqOf] at e
                    split at e
                    · rename_i w' e'
                      cases e
                      exact r.seqL h1 (.inl e')
                    · rename_i w' e'
                      cases e
                      exact r.seqL h1 (.inr e')
                    · cases e
                  obtain ⟨g1, g2⟩ := prs_at e2 hc2.2 y2
                  refine cr_sortT (d := 2) (B := 1099511627776) (by decide) pins s σ H _ us Q I rs ⟨a, zs, rfl, y1, by rw [← g1]; exact hc2.1, g2, fun ys p hp hw hn => ?_⟩
                  exact q.lst r hn (prs_srt e2 hc2.2 y2 hp hw)
                · exact False.elim q
              · exact False.elim q
          · split at q
            · rename_i kvs e
              split at q
              · rename_i ns e2
                split at q
                · rename_i h64
                  obtain ⟨b, kxs, z1, z2, z3⟩ := dctOf_rv r (.ref h1) e
                  cases z1
                  refine call_sortedDI hc pins s σ H _ us Q I rs ⟨a, kxs, ns, rfl, .inl z2, dr_ints z3 e2, h64, fun ys p hp hw hn => ?_⟩
                  rw [srt_eq hp hw]
                  exact q.lst r hn (rvs_ints _)
                · exact False.elim q
              · exact False.elim q
            · exact False.elim q
        | _ => exact False.elim q
  | ord =>
    cases rv with
    | nil => exact False.elim q
    | cons r1 r2 =>
      cases r1 with
      | str z =>
        cases r2 with
        | cons _ _ => simp only [primF] at q; exact False.elim q
        | nil =>
          simp only [primF] at q
          split at q
          all_goals first
            | exact False.elim q
            | skip
          all_goals simp_all
          all_goals first
            | done
            | (refine call_ord pins s σ H _ us Q I rs ⟨_, rfl, rfl, ?_⟩
               exact q.of r (.int _))
      | _ => cases r2 <;> exact False.elim q
  | min1 =>
    cases rv with
    | nil => exact False.elim q
    | cons r1 r2 =>
      rename_i v vs x xs
      cases r2 with
      | cons _ _ => exact False.elim q
      | nil =>
        simp only [primF, mnK] at q
        split at q
        · rename_i ws e
          split at q
          · rename_i ns e2
            split at q
            · rename_i i e3
              cases r1 with
              | tup z1 z2 =>
                cases e
                exact cr_minT hc pins s σ H _ us Q I rs ⟨_, ns, rfl, by rw [← z2.ints e2]; exact z1, mnI_pos e3, fun m h1 h2 => by rw [mnI_uniq e3 h1 h2]; exact q.of r (.int _)⟩
              | @ref n a h1 =>
                obtain ⟨zs, y1, y2⟩ : ∃ zs, SqL X.K H a zs ∧ RVs X.K m H ws zs := by
                  simp only [seqOf] at e
                  split at e
                  · rename_i w' e'
                    cases e
                    exact r.seqL h1 (.inl e')
                  · rename_i w' e'
                    cases e
                    exact r.seqL h1 (.inr e')
                  · cases e
                exact cr_min hc pins s σ H _ us Q I rs ⟨a, ns, rfl, by rw [← y2.ints e2]; exact y1, mnI_pos e3, fun m h1 h2 => by rw [mnI_uniq e3 h1 h2]; exact q.of r (.int _)⟩
              | _ => cases e
            · exact False.elim q
          · exact False.elim q
        · exact False.elim q
  | max1 =>
    cases rv with
    | nil => exact False.elim q
    | cons r1 r2 =>
      rename_i v vs x xs
      cases r2 with
      | cons _ _ => exact False.elim q
      | nil =>
        simp only [primF, mnK] at q
        split at q
        · rename_i ws e
          split at q
          · rename_i ns e2
            split at q
            · rename_i i e3
              cases r1 with
              | tup z1 z2 =>
                cases e
                exact cr_maxT hc pins s σ H _ us Q I rs ⟨_, ns, rfl, by rw [← z2.ints e2]; exact z1, mxI_pos e3, fun m h1 h2 => by rw [mxI_uniq e3 h1 h2]; exact q.of r (.int _)⟩
              | @ref n a h1 =>
                obtain ⟨zs, y1, y2⟩ : ∃ zs, SqL X.K H a zs ∧ RVs X.K m H ws zs := by
                  simp only [seqOf] at e
                  split at e
                  · rename_i w' e'
                    cases e
                    exact r.seqL h1 (.inl e')
                  · rename_i w' e'
                    cases e
                    exact r.seqL h1 (.inr e')
                  · cases e
                exact cr_max hc pins s σ H _ us Q I rs ⟨a, ns, rfl, by rw [← y2.ints e2]; exact y1, mxI_pos e3, fun m h1 h2 => by rw [mxI_uniq e3 h1 h2]; exact q.of r (.int _)⟩
              | _ => cases e
            · exact False.elim q
          · exact False.elim q
        · exact False.elim q
end
end MP

set_option Elab.async false
set_option linter.all false
set_option maxRecDepth 100000
set_option maxHeartbeats 1000000
set_option autoImplicit false
/-! MPe: the built-in methods. -/
namespace MP
open PySem PySem.Spec PyProof.Rows L2
def pmT : PM → String
  | .append => "list" | .extend => "list" | .pop => "list" | .index => "list"
  | .get => "dict" | .get2 => "dict" | .dpop => "dict"
  | _ => "str"
def pmN : PM → Str
  | .append => "append" | .extend => "extend" | .pop => "pop" | .index => "index"
  | .get => "get" | .get2 => "get" | .dpop => "pop"
  | .find => "find" | .split => "split" | .strip => "strip" | .stripC => "strip" | .lower => "lower" | .upper => "upper" | .join => "join" | .startswith => "startswith" | .sindex => "index"
def pmI : PM → String
  | .append => "list.append" | .extend => "list.extend" | .pop => "list.pop" | .index => "list.index"
  | .get => "dict.get" | .get2 => "dict.get" | .dpop => "dict.pop"
  | .find => "str.find" | .split => "str.split" | .strip => "str.strip" | .stripC => "str.strip" | .lower => "str.lower" | .upper => "str.upper" | .join => "str.join" | .startswith => "str.startswith" | .sindex => "str.index"
theorem pm_pa (p : PM) : PlainAttrs (pmT p) := by
  cases p <;> first | exact PySem.F.plainAttrs_list | exact PySem.F.plainAttrs_dict | exact PySem.F.plainAttrs_str
theorem pm_slot (p : PM) : Slot (pmT p) (pmN p) (pmI p) := by
  cases p
  · exact PySem.F.slot_list_append
  · exact PySem.F.slot_list_extend
  · exact PySem.F.slot_list_pop
  · exact PySem.F.slot_str_find
  · exact PySem.F.slot_str_split
  · exact PySem.F.slot_str_strip
  · exact PySem.F.slot_str_strip
  · exact PySem.F.slot_str_lower
  · exact PySem.F.slot_str_upper
  · exact PySem.F.slot_str_join
  · exact PySem.F.slot_list_index
  · exact PySem.F.slot_dict_get
  · exact PySem.F.slot_dict_get
  · exact PySem.F.slot_str_startswith
  · exact PySem.F.slot_dict_pop
  · exact PySem.F.slot_str_index
theorem pm_ty (p : PM) : typeOf (.builtin (pmI p)) = pure (.type "method_descriptor") := by
  cases p
  · exact PySem.F.type_list_append
  · exact PySem.F.type_list_extend
  · exact PySem.F.type_list_pop
  · exact PySem.F.type_str_find
  · exact PySem.F.type_str_split
  · exact PySem.F.type_str_strip
  · exact PySem.F.type_str_strip
  · exact PySem.F.type_str_lower
  · exact PySem.F.type_str_upper
  · exact PySem.F.type_str_join
  · exact PySem.F.type_list_index
  · exact PySem.F.type_dict_get
  · exact PySem.F.type_dict_get
  · exact PySem.F.type_str_startswith
  · exact PySem.F.type_dict_pop
  · exact PySem.F.type_str_index
section
variable {X : Cx} {nm : List Str} {ca : Nat → Addr}
/-- the receiver is of the method's type -/
theorem tyOk {Z : Ev} {m : List Addr} {h : Hs} {H : Hp} {p : PM} {v : Val} {x : V} (r : Rep Z m h H) (rv : RV Z.K m H v x) (e : tyOkB h p v = true) : tyV Z.K (pmT p) x H := by
  have lst : ∀ (n : Nat), v = .ref n → (∃ vs, h[n]? = some (.lst vs) ∨ h[n]? = some (.frz vs)) → tyV Z.K "list" x H := fun n ev hb => by
    subst ev
    cases rv with
    | ref h1 =>
      obtain ⟨vs, e⟩ := hb
      obtain ⟨xs, z, _⟩ := r.seqL h1 e
      exact .inl ⟨rfl, xs, z⟩
  have dct : ∀ (n : Nat), v = .ref n → (∃ kvs, h[n]? = some (.dct kvs)) → tyV Z.K "dict" x H := fun n ev hb => by
    subst ev
    cases rv with
    | ref h1 =>
      obtain ⟨vs, e⟩ := hb
      obtain ⟨xs, z, _⟩ := r.dct h1 e
      exact .inr (.inr (.inl ⟨rfl, .inl ⟨xs, z⟩⟩))
  have str : ∀ (s : List Nat), v = .str s → tyV Z.K "str" x H := fun n ev => by
    subst ev
    cases rv
    rfl
  cases p <;> cases v <;> first
    | (exact Bool.noConfusion e)
    | (exact str _ rfl)
    | (simp only [tyOkB] at e
       split at e
       all_goals first
         | (exact Bool.noConfusion e)
         | (rename_i q; exact lst _ rfl ⟨_, .inl q⟩)
         | (rename_i q; exact lst _ rfl ⟨_, .inr q⟩)
         | (rename_i q; exact dct _ rfl ⟨_, q⟩))
theorem strs_seq {Z : Ev} {m : List Addr} {h : Hs} {H : Hp} {n : Nat} {a : Addr} {ws : List Val} (r : Rep Z m h H) (h1 : m[n]? = some a) (e : seqOf h (.ref n) = some ws) : ∃ zs, SqL Z.K H a zs ∧ RVs Z.K m H ws zs := by
  simp only [seqOf] at e
  split at e
  · rename_i w' e'
    cases e
    exact r.seqL h1 (.inl e')
  · rename_i w' e'
    cases e
    exact r.seqL h1 (.inr e')
  · cases e
theorem mk_tl_map (ts : List (List Nat)) : (ts.map mk).map TL.tl = ts := by
  induction ts with
  | nil => rfl
  | cons t r ih => rw [List.map_cons, List.map_cons, ih]
theorem join_mk (s : List Nat) (ts : List (List Nat)) : Txt.join (mk s) (ts.map mk) = mk (TL.joinL s ts) := by
  refine TL.ext_tl ?_
  rw [TL.join_eq, TL.tl_join, mk_tl_map]
theorem split_mk {s u : List Nat} (h0 : u.length ≠ 0) (hk : u.all (· < 256) = true) : Txt.split (mk s) (mk u) = (TL.spl u 0 [] s).map mk := by
  refine TL.map_tl_inj ?_
  rw [mk_tl_map]
  refine TL.split_spl (mk s) (mk u) ?_ (TL.kind_ok ?_)
  · show u ≠ []
    intro z
    rw [z] at h0
    exact h0 rfl
  · show u.toArray.all (· < 256) = true
    simpa using hk
theorem idxF_ok {K : PySem.W.Frag} {m : List Addr} {H : Hp} {w : Val} {y : V} (rw_ : RV K m H w y) (fw : flat w = true) : ∀ {vs : List Val} {xs : List V} {i j : Nat}, RVs K m H vs xs → vs.all flat = true → idxF w vs i = some j →
    ∃ k z, j = i + k ∧ xs[k]? = some z ∧ eqV z y = true ∧ ∀ (q : Nat) (z' : V), q < k → xs[q]? = some z' → eqV z' y = false
  | [], _, _, _, h, _, e => by cases e
  | v :: vs, _, i, j, h, fl, e => by
    cases h with
    | cons h1 h2 =>
      rename_i x xs
      rw [List.all_cons, Bool.and_eq_true] at fl
      unfold idxF at e
      have ev := eqW_rv h1 rw_ fl.1 fw
      split at e
      · rename_i hv
        cases e
        exact ⟨0, x, rfl, rfl, by rw [ev]; exact hv, fun q z' hq => by omega⟩
      · rename_i hv
        obtain ⟨k, z, e1, e2, e3, e4⟩ := idxF_ok rw_ fw h2 fl.2 e
        refine ⟨k + 1, z, by omega, by simpa using e2, e3, fun q z' hq hz => ?_⟩
        cases q with
        | zero =>
          simp at hz
          subst hz
          rw [ev]
          simpa using hv
        | succ q => exact e4 q z' (by omega) (by simpa using hz)
theorem list_extend_tup (l : Addr) (items : Array Value) (n : Nat) (b : Addr) (items2 : Array Value) (n2 : Nat) (dd : Option Addr) (sl : Array (Option Value)) (hs0 : ¬(!items.isEmpty && Builtin.List.listTooLong (items.size + items2.size)) = true) (hs1 : items.size ≤ sizeLine) (hs2 : items.size + items2.size ≤ sizeLine + 1) :
    Meets (Builtin.«list.extend» ⟨[.ref l, .ref b], []⟩) (fun _ R s => s.heap.get? l = some { cls := .type "list", dict := none, data := .seq items n, slots := #[] } ∧ s.heap.get? b = some { cls := .type "tuple", dict := dd, data := .seq items2 n2, slots := sl } ∧ R (.ok (.ret Value.none)) { s with heap := s.heap.update l (Obj.mapSeq fun x => x ++ items2), toks := s.toks }) :=
  .of_wp fun prog w A R s h => by
    obtain ⟨hp, g, d, tk, os⟩ := s; obtain ⟨hl, hb, h⟩ := h; have f1 := AutoSeq1.idx_int; have f2 := AutoSeq1.sub_tuple_tuple; have f3 := AutoSeq1.sub_list_list; have f4 := AutoSeq1.sub_tuple_list; have f5 := AutoSeq1.sub_list_tuple;
    have hz' : (items ++ items2).size ≤ sizeLine + 1 := by rw [Array.size_append]; exact hs2
    wp_walk using (wpAny_updateSeq hl rfl (hz := hs1) (_hz' := hz')), AutoSeq1.wpAny_loadPart' hl, AutoSeq1.wpAny_loadPart' hb; exact ⟨_, rfl, h⟩
def rExtendT (K : PySem.W.Frag) : V → List V → Hp → VK → Prop := fun x vs H Q => ∃ l b xs zs, x = .ref l ∧ vs = [.ref b] ∧ H l = some (.lst xs) ∧ SqT K H b zs ∧ xs.length + zs.length ≤ sizeLine ∧ Q .non (upd H l (.lst (xs ++ zs)))
theorem mt_extendT : MtR X "list.extend" (rExtendT X.K) := by
  intro pins s σ H x vs v us Q I rx rv h
  obtain ⟨l, b, xs, zs, rfl, rfl, hH, hB, hz, q⟩ := h
  cases rx
  obtain ⟨u, rfl, ru⟩ := rv.one
  cases ru
  obtain ⟨z, its, n, r, hl, e⟩ := I.lstM hH
  obtain ⟨its2, r2, ⟨⟨cls, dd, dt, sl⟩, ho, hc, n2, hd⟩, _⟩ := I.tuple hB
  simp only at hc hd
  subst hc
  subst hd
  have hl2 := r2.length
  have hsz : its.toArray.size + its2.toArray.size ≤ sizeLine := by rw [List.size_toArray, List.size_toArray]; omega
  have hlong : ¬ (!its.toArray.isEmpty && Builtin.List.listTooLong (its.toArray.size + its2.toArray.size)) = true := by
    rw [notLongL hsz, Bool.and_false]
    exact Bool.false_ne_true
  refine call_meets PySem.F.slot_list_extend ⟨_, e, rfl⟩ PySem.F.entry_list_extend (PySem.F.args_list_extend_2 _ _)
    (list_extend_tup l its.toArray n b its2.toArray n2 dd sl hlong (by rw [List.size_toArray]; omega) (by omega)) ⟨e, ho, ?_⟩
  refine ⟨.non, _, I.lset (its' := its ++ its2) hH e (by simp) (r.append r2) ?_, rfl, q⟩
  rw [List.length_append]
  omega
def rPM (Z : Ev) (p : PM) : V → List V → Hp → VK → Prop := fun x xs H Q => ∃ m h a vs, Rep Z m h H ∧ RV Z.K m H a x ∧ RVs Z.K m H vs xs ∧ Post Z m H (pmF p a vs h) Q
theorem pm_S (hu : X.A.units + 65 < cLine) (p : PM) : MtR X (pmI p) (rPM (zz X nm ca) p) := by
  intro pins s σ H x xs v us Q I rx rxs hq
  obtain ⟨m, h, a, vs, r, ra, rs, q⟩ := hq
  have nl : ∀ {ys : List V} {o : HO} {t : Addr}, H t = some (.lst ys) → Ext m H m (upd H t o) := fun e => ext_lst e
  cases p with
  | append =>
    cases ra with
    | @ref n t h1 =>
      cases rs with
      | nil => exact False.elim q
      | cons r1 r2 =>
        cases r2 with
        | cons _ _ => exact False.elim q
        | nil =>
          simp only [pmF] at q
          split at q
          · rename_i ws e
            split at q
            · rename_i hl
              obtain ⟨ys, z1, z2⟩ := r.lst h1 e
              refine mt_append pins s σ H _ _ v us Q I rx rxs ⟨t, ys, _, rfl, rfl, z1, by rw [← z2.len, lim_eq]; exact hl, ?_⟩
              exact q.set r .non h1 e rfl rfl z1 (fun _ z => by cases z) (fun _ _ z => by cases z) ⟨_, upd_same, RVs.mono (nl z1) _ _ (z2.append (.cons r1 .nil))⟩
            · exact False.elim q
          · exact False.elim q
    | _ => exact False.elim q
  | extend =>
    cases ra with
    | @ref n t h1 =>
      cases rs with
      | nil => exact False.elim q
      | cons r1 r2 =>
        cases r1 with
        | @ref k t2 h2 =>
          cases r2 with
          | cons _ _ => exact False.elim q
          | nil =>
            simp only [pmF] at q
            split at q
            · rename_i ws us' e e2
              split at q
              · rename_i hl
                obtain ⟨ys, z1, z2⟩ := r.lst h1 e
                obtain ⟨ys2, z3, z4⟩ := r.lst h2 e2
                refine mt_extend pins s σ H _ _ v us Q I rx rxs ⟨t, t2, ys, ys2, rfl, rfl, z1, z3, by rw [← z2.len, ← z4.len, lim_eq]; exact hl, ?_⟩
                exact q.set r .non h1 e rfl rfl z1 (fun _ z => by cases z) (fun _ _ z => by cases z) ⟨_, upd_same, RVs.mono (nl z1) _ _ (z2.append z4)⟩
              · exact False.elim q
            · exact False.elim q
        | tup y1 y2 =>
          cases r2 with
          | cons _ _ => exact False.elim q
          | nil =>
            simp only [pmF] at q
            split at q
            · rename_i ws e
              split at q
              · rename_i hl
                obtain ⟨ys, z1, z2⟩ := r.lst h1 e
                refine mt_extendT pins s σ H _ _ v us Q I rx rxs ⟨t, _, ys, _, rfl, rfl, z1, y1, by rw [← z2.len, ← y2.len, lim_eq]; exact hl, ?_⟩
                exact q.set r .non h1 e rfl rfl z1 (fun _ z => by cases z) (fun _ _ z => by cases z) ⟨_, upd_same, RVs.mono (nl z1) _ _ (z2.append y2)⟩
              · exact False.elim q
            · exact False.elim q
        | _ => cases r2 <;> exact False.elim q
    | _ => exact False.elim q
  | pop =>
    cases ra with
    | @ref n t h1 =>
      cases rs with
      | cons _ _ => exact False.elim q
      | nil =>
        simp only [pmF] at q
        split at q
        · rename_i ws e
          split at q
          · rename_i w e2
            obtain ⟨ys, z1, z2⟩ := r.lst h1 e
            rw [List.getLast?_eq_getElem?] at e2
            obtain ⟨y, z3, z4⟩ := z2.get e2
            refine mt_pop pins s σ H _ _ v us Q I rx rxs ⟨t, ys, y, rfl, rfl, z1, by rw [← z2.len]; exact z3, ?_⟩
            exact q.set r z4 h1 e rfl rfl z1 (fun _ z => by cases z) (fun _ _ z => by cases z) ⟨_, upd_same, RVs.mono (nl z1) _ _ z2.dropLast⟩
          · exact False.elim q
        · exact False.elim q
    | _ => exact False.elim q
  | find =>
    cases ra with
    | str z =>
      cases rs with
      | nil => exact False.elim q
      | cons r1 r2 =>
        cases r1 with
        | str w =>
          cases r2 with
          | cons _ _ => exact False.elim q
          | nil => exact mt_find pins s σ H _ _ v us Q I rx rxs ⟨mk z, mk w, rfl, rfl, q.of r (.int _)⟩
        | _ => cases r2 <;> exact False.elim q
    | _ => exact False.elim q
  | sindex =>
    cases ra with
    | str z =>
      cases rs with
      | nil => exact False.elim q
      | cons r1 r2 =>
        cases r1 with
        | str w =>
          cases r2 with
          | cons _ _ => exact False.elim q
          | nil =>
            simp only [pmF] at q
            split at q
            · rename_i hc
              have key : ∃ (i : Nat) (rest : List Nat), Builtin.Str.occurrences (mk z) (mk w) 0 (mk z).length 1 = i :: rest ∧ Txt.find (mk z) (mk w) = (i : Int) := by
                unfold Txt.find at hc ⊢
                cases ho : Builtin.Str.occurrences (mk z) (mk w) 0 (mk z).length 1 with
                | nil =>
                  rw [show Builtin.Str.occurrences ⟨z.toArray⟩ ⟨w.toArray⟩ 0 (⟨z.toArray⟩ : Str).length 1 = [] from ho] at hc
                  exact absurd hc (by decide)
                | cons i rest => exact ⟨i, rest, rfl, rfl⟩
              obtain ⟨i, rest, e1, e2⟩ := key
              refine mt_sindex pins s σ H _ _ v us Q I rx rxs ⟨mk z, mk w, i, rest, rfl, rfl, e1, ?_⟩
              rw [← e2]
              exact q.of r (.int _)
            · exact False.elim q
        | _ => cases r2 <;> exact False.elim q
    | _ => exact False.elim q
  | startswith =>
    cases ra with
    | str z =>
      cases rs with
      | nil => exact False.elim q
      | cons r1 r2 =>
        cases r1 with
        | str w =>
          cases r2 with
          | cons _ _ => exact False.elim q
          | nil => exact mt_startswith pins s σ H _ _ v us Q I rx rxs ⟨mk z, mk w, rfl, rfl, q.of r (.bl _)⟩
        | _ => cases r2 <;> exact False.elim q
    | _ => exact False.elim q
  | split =>
    cases ra with
    | str z =>
      cases rs with
      | nil => exact False.elim q
      | cons r1 r2 =>
        cases r1 with
        | str w =>
          cases r2 with
          | cons _ _ => exact False.elim q
          | nil =>
            simp only [pmF] at q
            split at q
            · rename_i hc
              refine mt_split pins s σ H _ _ v us Q I rx rxs ⟨mk z, mk w, rfl, rfl, ?_, by rw [mk_len, lim_eq]; exact hc.2.1, fun t ht => ?_⟩
              · rw [mk_len]; simpa using hc.1
              · rw [split_mk hc.1 hc.2.2]
                exact q.lst r ht (rvs_strs _)
            · exact False.elim q
        | _ => cases r2 <;> exact False.elim q
    | _ => exact False.elim q
  | strip =>
    cases ra with
    | str z =>
      cases rs with
      | cons _ _ => exact False.elim q
      | nil =>
        simp only [pmF] at q
        split at q
        · rename_i hc
          have y := q.of r (.str _)
          rw [mk_of] at y
          exact mt_strip pins s σ H _ _ v us Q I rx rxs ⟨mk z, rfl, rfl, by rw [mk_len, lim_eq]; exact hc, y⟩
        · exact False.elim q
    | _ => exact False.elim q
  | stripC =>
    cases ra with
    | str z =>
      cases rs with
      | nil => exact False.elim q
      | cons r1 r2 =>
        cases r1 with
        | str w =>
          cases r2 with
          | cons _ _ => exact False.elim q
          | nil =>
            simp only [pmF] at q
            split at q
            · rename_i hc
              have y := q.of r (.str _)
              rw [mk_of] at y
              exact mt_stripChars pins s σ H _ _ v us Q I rx rxs ⟨mk z, mk w, rfl, rfl, by rw [mk_len, lim_eq]; exact hc, y⟩
            · exact False.elim q
        | _ => cases r2 <;> exact False.elim q
    | _ => exact False.elim q
  | lower =>
    cases ra with
    | str z =>
      cases rs with
      | cons _ _ => exact False.elim q
      | nil =>
        simp only [pmF] at q
        split at q
        · rename_i hc
          have y := q.of r (.str _)
          rw [mk_of] at y
          exact mt_lower pins s σ H _ _ v us Q I rx rxs ⟨mk z, rfl, rfl, by rw [mk_len]; exact hc, y⟩
        · exact False.elim q
    | _ => exact False.elim q
  | upper =>
    cases ra with
    | str z =>
      cases rs with
      | cons _ _ => exact False.elim q
      | nil =>
        simp only [pmF] at q
        split at q
        · rename_i hc
          have y := q.of r (.str _)
          rw [mk_of] at y
          exact mt_upper pins s σ H _ _ v us Q I rx rxs ⟨mk z, rfl, rfl, by rw [mk_len]; exact hc, y⟩
        · exact False.elim q
    | _ => exact False.elim q
  | join =>
    cases ra with
    | str z =>
      cases rs with
      | nil => exact False.elim q
      | cons r1 r2 =>
        cases r1 with
        | @ref k t h1 =>
          cases r2 with
          | cons _ _ => exact False.elim q
          | nil =>
            simp only [pmF] at q
            split at q
            · rename_i ws e
              split at q
              · rename_i ts e2
                split at q
                · rename_i hc
                  obtain ⟨zs, y1, y2⟩ := strs_seq r h1 e
                  have y3 := y2.strs e2
                  subst y3
                  refine mt_join pins s σ H _ _ v us Q I rx rxs ⟨mk z, t, ts.map mk, rfl, rfl, .inl y1, ?_, ?_⟩
                  · rw [List.map_map, List.length_map, mk_len]
                    have e3 : (Str.length ∘ mk) = List.length := by
                      funext l
                      exact mk_len l
                    rw [e3]
                    exact hc
                  · rw [join_mk]
                    exact q.of r (.str _)
                · exact False.elim q
              · exact False.elim q
            · exact False.elim q
        | _ => cases r2 <;> exact False.elim q
    | _ => exact False.elim q
  | index =>
    cases ra with
    | @ref n t h1 =>
      cases rs with
      | nil => exact False.elim q
      | cons r1 r2 =>
        rename_i w y
        cases r2 with
        | cons _ _ => exact False.elim q
        | nil =>
          simp only [pmF] at q
          split at q
          · rename_i ws e
            split at q
            · rename_i hc
              cases e2 : idxF _ ws 0 with
              | none => rw [e2] at q; exact False.elim q
              | some j =>
                rw [e2] at q
                obtain ⟨zs, y1, y2⟩ := strs_seq r h1 e
                obtain ⟨k, z, e3, e4, e5, e6⟩ := idxF_ok r1 hc.1 y2 hc.2 e2
                have e7 : j = k := by omega
                subst e7
                exact mt_index pins s σ H _ _ v us Q I rx rxs ⟨t, zs, _, j, z, rfl, rfl, y1, flat_rv r1 hc.1, flats_rv y2 hc.2, e4, e5, e6, q.of r (.int _)⟩
            · exact False.elim q
          · exact False.elim q
    | _ => exact False.elim q
  | get =>
    cases ra with
    | @ref n t h1 =>
      cases rs with
      | nil => exact False.elim q
      | cons r1 r2 =>
        cases r2 with
        | cons _ _ => exact False.elim q
        | nil =>
          simp only [pmF] at q
          split at q
          · rename_i kvs k e e2
            obtain ⟨kxs, z1, z2⟩ := r.dct h1 e
            obtain ⟨u1, rfl, ru⟩ := Vals.one rxs
            obtain rfl : v = Value.ref t := rx
            have g : DGet H t _ (valV kxs (kyK k)) := DGet.k z1
            rw [← toKy_rv r1 e2] at g
            refine d_get1 (by omega) I g ru fun w' s' I' rw' => ⟨_, H, I', rw', ?_⟩
            obtain ⟨g1, g2⟩ := z2.get k
            cases e3 : dget kvs k with
            | none =>
              rw [g2 e3]
              rw [e3] at q
              exact q.of r .non
            | some w =>
              obtain ⟨x', y1, y2⟩ := g1 w e3
              rw [y1]
              rw [e3] at q
              exact q.of r y2
          · exact False.elim q
    | _ => exact False.elim q
  | get2 =>
    cases ra with
    | @ref n t h1 =>
      cases rs with
      | nil => exact False.elim q
      | cons r1 r2 =>
        cases r2 with
        | nil => exact False.elim q
        | cons r3 r4 =>
          cases r4 with
          | cons _ _ => exact False.elim q
          | nil =>
            simp only [pmF] at q
            split at q
            · rename_i kvs k e e2
              obtain ⟨kxs, z1, z2⟩ := r.dct h1 e
              obtain ⟨u1, u2, rfl, ru, ru2⟩ := Vals.two rxs
              obtain rfl : v = Value.ref t := rx
              have g : DGet H t _ (valV kxs (kyK k)) := DGet.k z1
              rw [← toKy_rv r1 e2] at g
              refine d_get2 (by omega) I g ru ru2 fun w' s' I' rw' => ⟨_, H, I', rw', ?_⟩
              obtain ⟨g1, g2⟩ := z2.get k
              cases e3 : dget kvs k with
              | none =>
                rw [g2 e3]
                rw [e3] at q
                exact q.of r r3
              | some w =>
                obtain ⟨x', y1, y2⟩ := g1 w e3
                rw [y1]
                rw [e3] at q
                exact q.of r y2
            · exact False.elim q
    | _ => exact False.elim q
  | dpop =>
    cases ra with
    | @ref n t h1 =>
      cases rs with
      | nil => exact False.elim q
      | cons r1 r2 =>
        cases r2 with
        | cons _ _ => exact False.elim q
        | nil =>
          simp only [pmF] at q
          split at q
          · rename_i kvs k e e2
            split at q
            · rename_i w e3
              obtain ⟨kxs, z1, z2⟩ := r.dct h1 e
              obtain ⟨u1, rfl, ru⟩ := Vals.one rxs
              obtain rfl : v = Value.ref t := rx
              obtain ⟨g1, _⟩ := z2.get k
              obtain ⟨x', y1, y2⟩ := g1 w e3
              rw [toKy_rv r1 e2] at ru
              refine d_pop I z1 ru y1 (.inl rfl) fun w' s' I' rw' => ⟨x', _, I', rw', ?_⟩
              exact q.set r y2 h1 e rfl rfl z1 (fun _ z => by cases z) (fun _ _ z => by cases z) ⟨_, upd_same, z2.del.mono (ext_dct z1)⟩
            · exact False.elim q
          · exact False.elim q
    | _ => exact False.elim q
end
end MP

set_option Elab.async false
set_option linter.all false
set_option maxRecDepth 100000
set_option maxHeartbeats 4000000
set_option autoImplicit false
/-! MPf: the text and the language agree (a check by computation); expressions are sound. -/
namespace MP
open PySem PySem.Spec PyProof.Rows L2

/-! ### the check -/
structure Sc where
  N : List Str
  sc : Scope
  fnb : Str → Bool
def notStar : Expr → Bool
  | .Starred _ _ => false
  | _ => true
def notSuper : Expr → Bool
  | .Call (.Name id _) [] [] _ => id != ("super" : Str)
  | _ => true
def notSet : Expr → Bool
  | .Set _ _ _ => false
  | _ => true
def notSlice : Expr → Bool
  | .Slice _ _ _ _ => false
  | _ => true
def glB (k : Sc) (x : Str) : Bool := decide (k.sc.names.lookup x = some .globalImplicit) && !(x == ("__debug__" : Str))
def visB (k : Sc) (x : Str) : Bool := (match k.sc.names.lookup x with
  | some .local => true
  | some .cell => true
  | some .free => true
  | _ => false) && !(x == ("__debug__" : Str)) && !(x == ("__classdict__" : Str))
def locB (k : Sc) (x : Str) : Bool := match k.sc.names.lookup x with
  | some .local => true
  | some .cell => k.fnb x
  | _ => false
def primN : Prim → Str
  | .len => "len" | .int => "int" | .abs => "abs" | .min => "min" | .max => "max" | .str => "str" | .tuple => "tuple" | .list => "list" | .sum => "sum" | .sorted => "sorted" | .ord => "ord" | .min1 => "min" | .max1 => "max"
def tyN : Ty → Str
  | .bool => "bool" | .int => "int" | .str => "str" | .list => "list" | .tuple => "tuple"
/-- a built-in name that the module does not bind -/
def biB (G : Tab) (k : Sc) (x : Str) : Bool := glB k x && G.free.contains x
def chkT (k : Sc) : Tg → Expr → Bool
  | .nm i, py => (match py with
    | .Name x _ => decide (k.N[i]? = some x) && locB k x
    | _ => false)
  | .tup js, py => (match py with
    | .Tuple es _ _ => decide (es.length = js.length) && (es.zip js).all fun q => match q.1 with
      | .Name x _ => decide (k.N[q.2]? = some x) && locB k x
      | _ => false
    | _ => false)
def tgI : Tg → List Nat
  | .nm i => [i]
  | .tup js => js
/-- 0wd -/
def specL (w : Nat) : List Nat := [48, 48 + w, 100]
/-- behind its value a token is out -/
def tokB : E → Bool
  | .str _ => true
  | .bin .Add _ (.str _) => true
  | _ => false
/-- e.replace(y, z) .., the last pair first -/
def chkR (p : Expr → Bool) : List (List Nat × List Nat) → Expr → Bool
  | [], py => p py
  | (y, z) :: r, py => (match py with
    | .Call (.Attribute b g ap) [.Constant (.str c) _ _, .Constant (.str d) _ _] [] pos => decide (g = ("replace" : Str)) && decide (mk y = c) && decide (mk z = d) && decide (y ≠ z) && notSuper b && (ap.endLine == pos.line) && chkR p r b
    | _ => false)
mutual
def chkE (G : Tab) : Sc → E → Expr → Bool
  | k, .var i, py => (match py with
    | .Name x _ => decide (k.N[i]? = some x) && visB k x
    | _ => false)
  | _, .non, py => (match py with
    | .Constant .none _ _ => true
    | _ => false)
  | _, .tt b, py => (match py with
    | .Constant (.bool c) _ _ => b == c
    | _ => false)
  | _, .int i, py => (match py with
    | .Constant (.int j) _ _ => decide (i = j)
    | _ => false)
  | _, .str s, py => (match py with
    | .Constant (.str x) _ _ => decide (mk s = x)
    | _ => false)
  | k, .glob i, py => (match py with
    | .Name x _ => decide ((G.globs[i]?).map (·.1) = some x) && glB k x
    | _ => false)
  | k, .bin op a b, py => (match py with
    | .BinOp x o y _ => decide (op = o) && chkE G k a x && chkE G k b y
    | _ => false)
  | k, .neg a, py => (match py with
    | .UnaryOp .USub x _ => chkE G k a x
    | _ => false)
  | k, .not a, py => (match py with
    | .UnaryOp .Not x _ => chkE G k a x
    | _ => false)
  | k, .cmp op a b, py => (match py with
    | .Compare x [o] [y] _ => decide (op = o) && chkE G k a x && chkE G k b y && notSet y
    | _ => false)
  | k, .chain op op2 a b c, py => (match py with
    | .Compare x [o, o2] [y, z] _ => decide (op = o) && decide (op2 = o2) && chkE G k a x && chkE G k b y && chkE G k c z && notSet y && notSet z
    | _ => false)
  | k, .chain3 op op2 op3 a b c d, py => (match py with
    | .Compare x [o, o2, o3] [y, z, w] _ => decide (op = o) && decide (op2 = o2) && decide (op3 = o3) && chkE G k a x && chkE G k b y && chkE G k c z && chkE G k d w && notSet w
    | _ => false)
  | k, .and a b, py => (match py with
    | .BoolOp .And [x, y] _ => chkE G k a x && chkE G k b y
    | .BoolOp .And (x :: y :: z :: r) p => chkE G k a x && chkE G k b (.BoolOp .And (y :: z :: r) p)
    | _ => false)
  | k, .or a b, py => (match py with
    | .BoolOp .Or [x, y] _ => chkE G k a x && chkE G k b y
    | .BoolOp .Or (x :: y :: z :: r) p => chkE G k a x && chkE G k b (.BoolOp .Or (y :: z :: r) p)
    | _ => false)
  | k, .ife c a b, py => (match py with
    | .IfExp t x y _ => chkE G k c t && chkE G k a x && chkE G k b y
    | _ => false)
  | k, .tup es, py => (match py with
    | .Tuple xs _ _ => chkEs G k es xs
    | _ => false)
  | k, .lst es, py => (match py with
    | .List xs _ => chkEs G k es xs
    | _ => false)
  | k, .dic es, py => (match py with
    | .Dict ks vs _ => decide (ks.length ≤ 15) && decide (ks.length = vs.length) && chkD G k es ks vs
    | _ => false)
  | k, .call f es, py => (match py with
    | .Call (.Name x _) xs [] _ => (match G.fns[f]? with
      | some d => d.cls.isNone && decide (d.name = x)
      | none => false) && glB k x && chkEs G k es xs
    | _ => false)
  | k, .new c es, py => (match py with
    | .Call (.Name x _) xs [] _ => (match G.cls[c]? with
      | some d => decide (d.name = x) && d.init.isSome
      | none => false) && glB k x && chkEs G k es xs
    | _ => false)
  | k, .meth o m es, py => (match py with
    | .Call (.Attribute y g ap) xs [] pos => decide (G.nm[m]? = some g) && chkE G k o y && chkEs G k es xs && notSuper y && (ap.endLine == pos.line) && decide (xs.length < 29)
    | _ => false)
  | k, .prim p es, py => (match py with
    | .Call (.Name x _) xs [] _ => decide (x = primN p) && biB G k x && chkEs G k es xs && !xs.isEmpty
    | _ => false)
  | k, .pm p o es, py => (match py with
    | .Call (.Attribute y g ap) xs [] pos => decide (g = pmN p) && chkE G k o y && chkEs G k es xs && notSuper y && (ap.endLine == pos.line) && decide (xs.length < 29)
    | _ => false)
  | k, .fld o f, py => (match py with
    | .Attribute y g _ => decide (G.nm[f]? = some g) && chkE G k o y && notSuper y
    | _ => false)
  | k, .ix a b, py => (match py with
    | .Subscript x y _ => chkE G k a x && chkE G k b y && notSlice y
    | _ => false)
  | k, .sl a lo hi, py => (match py with
    | .Subscript x (.Slice l u none _) _ => chkE G k a x && chkO G k lo l && chkO G k hi u
    | _ => false)
  | k, .lc elt tg it cond own, py => (match py with
    | .ListComp e [⟨t, i, ifs, 0⟩] scope _ => chkI G k tg it i t && blkC k.N k.sc scope own && notSet i && (tgI tg).all (fun j => (own.map (·.2)).contains j && decide (j < k.N.length)) &&
      chkT ⟨k.N, relS scope k.sc, fun x => scope.names.lookup x == some .cell⟩ tg t &&
      chkC G ⟨k.N, relS scope k.sc, fun x => scope.names.lookup x == some .cell⟩ cond ifs &&
      chkE G ⟨k.N, relS scope k.sc, fun x => scope.names.lookup x == some .cell⟩ elt e
    | _ => false)
  | k, .gix i e, py => (match py with
    | .Call (.Attribute (.Name x _) g ap) [y] [] pos => decide ((G.globs[i]?).map (·.1) = some x) && (match G.globs[i]? with | some (_, .tup _) => true | _ => false) && glB k x && decide (g = ("index" : Str)) && chkE G k e y && notStar y && (ap.endLine == pos.line)
    | _ => false)
  | k, .isi e t, py => (match py with
    | .Call (.Name x _) [y, .Name z _] [] _ => decide (x = ("isinstance" : Str)) && biB G k x && chkE G k e y && notStar y && decide (z = tyN t) && biB G k z
    | _ => false)
  | k, .catR a o yz, py => (match py with
    | .BinOp x .Add y _ => chkE G k a x && tokB a && chkR (fun z => chkE G k o z) yz.reverse y && !yz.isEmpty
    | _ => false)
  | k, .fmt e w, py => (match py with
    | .FormattedValue x cv none _ => decide (cv = -1) && decide (w = 0) && chkE G k e x
    | .FormattedValue x cv (some (.JoinedStr [.Constant (.str c) _ _] _)) _ => decide (cv = -1) && decide (1 ≤ w) && decide (w < 10) && decide (mk (specL w) = c) && chkE G k e x
    | _ => false)
  | k, .js es, py => (match py with
    | .JoinedStr (x :: y :: r) _ => chkEs G k es (x :: y :: r)
    | _ => false)
  | k, .maxD a d, py => (match py with
    | .Call (.Name x _) [y] [⟨some kw, z, _⟩] _ => decide (x = ("max" : Str)) && decide (kw = ("default" : Str)) && biB G k x && chkE G k a y && notStar y && chkE G k d z
    | _ => false)
  | k, .gdct x kvs d e, py => decide ((x, kvs) ∈ G.dcts) && glB k x && (match d, py with
    | some i, .Call (.Attribute (.Name y _) m ap) [z, .Constant (.int j) _ _] [] pos => decide (y = x) && decide (m = ("get" : Str)) && chkE G k e z && notStar z && decide (i = j) && (ap.endLine == pos.line)
    | none, .Subscript (.Name y _) z _ => decide (y = x) && chkE G k e z && notSlice z
    | _, _ => false)
  | k, .rlst a b, py => (match py with
    | .Call (.Name x _) [.Call (.Name r _) [y, z] [] _] [] _ => decide (x = ("list" : Str)) && decide (r = ("range" : Str)) && biB G k x && biB G k r && chkE G k a y && notStar y && chkE G k b z && notStar z
    | _ => false)
def chkEs (G : Tab) : Sc → Es → List Expr → Bool
  | _, .nil, xs => xs.isEmpty
  | k, .cons e es, xs => (match xs with
    | x :: r => chkE G k e x && notStar x && chkEs G k es r
    | [] => false)
/-- a display's keys and values, in turn -/
def chkD (G : Tab) : Sc → Es → List (Option Expr) → List Expr → Bool
  | _, .nil, ks, vs => ks.isEmpty && vs.isEmpty
  | k, .cons e es, ks, vs => (match es with
    | .cons e2 es2 => (match ks, vs with
      | some x :: ks, y :: vs => chkE G k e x && chkE G k e2 y && chkD G k es2 ks vs
      | _, _ => false)
    | .nil => false)
def chkO (G : Tab) : Sc → Eo → Option Expr → Bool
  | _, .none, x => x.isNone
  | k, .some e, x => (match x with
    | some x => chkE G k e x
    | none => false)
def chkC (G : Tab) : Sc → Eo → List Expr → Bool
  | _, .none, xs => xs.isEmpty
  | k, .some e, xs => (match xs with
    | [x] => chkE G k e x
    | _ => false)
def chkI (G : Tab) : Sc → Tg → I → Expr → Expr → Bool
  | k, _, .val e, py, _ => chkE G k e py
  | k, _, .rng1 a, py, _ => (match py with
    | .Call (.Name x _) [y] [] _ => decide (x = ("range" : Str)) && biB G k x && chkE G k a y && notStar y
    | _ => false)
  | k, _, .rng2 a b, py, _ => (match py with
    | .Call (.Name x _) [y, z] [] _ => decide (x = ("range" : Str)) && biB G k x && chkE G k a y && notStar y && chkE G k b z && notStar z
    | _ => false)
  | k, _, .rng3 a b c, py, _ => (match py with
    | .Call (.Name x _) [y, z, w] [] _ => decide (x = ("range" : Str)) && biB G k x && chkE G k a y && notStar y && chkE G k b z && notStar z && chkE G k c w && notStar w
    | _ => false)
  | k, _, .enu e, py, t => (match py with
    | .Call (.Name x _) [y] [] _ => decide (x = ("enumerate" : Str)) && biB G k x && chkE G k e y && notStar y && (match t with
      | .Tuple _ _ _ => true
      | _ => false)
    | _ => false)
end
end MP

set_option Elab.async false
set_option linter.all false
set_option maxRecDepth 100000
set_option maxHeartbeats 4000000
set_option autoImplicit false
/-! MPg: readings of expressions; the steps from one to the next. -/
namespace MP
open PySem PySem.Spec L2
open PyProof.Rows hiding St

/-! ### slots -/
structure RepS (Z : Ev) (m : List Addr) (st : Sl) (h : Hs) (σ : St) (H : Hp) : Prop where
  rep : Rep Z m h H
  len : st.length = σ.length
  sl : ∀ (i : Nat) (v : Val), st[i]? = some (some v) → ∃ x, σ[i]? = some (some x) ∧ RV Z.K m H v x
section
variable {Z : Ev} {m m' : List Addr} {h h' : Hs} {H H' : Hp} {st : Sl} {σ : St}
theorem RepS.mono (r : RepS Z m st h σ H) (e : Ext m H m' H') (r' : Rep Z m' h' H') : RepS Z m' st h' σ H' :=
  ⟨r', r.len, fun i v q => let ⟨x, a, b⟩ := r.sl i v q; ⟨x, a, RV.mono e _ _ b⟩⟩
theorem RepS.put (r : RepS Z m st h σ H) (i : Nat) {v : Val} {x : V} (rv : RV Z.K m H v x) : RepS Z m (st.set i (some v)) h (σ.set i (some x)) H := by
  refine ⟨r.rep, by simp [r.len], fun j w q => ?_⟩
  by_cases hj : i = j
  · subst hj
    by_cases hl : i < st.length
    · rw [List.getElem?_set_self hl] at q
      cases q
      exact ⟨x, List.getElem?_set_self (by rw [← r.len]; exact hl), rv⟩
    · rw [List.getElem?_eq_none (by simpa using hl)] at q
      cases q
  · rw [List.getElem?_set_ne hj] at q ⊢
    exact r.sl j w q
theorem wipeS_len (st : Sl) : ∀ vs : List Nat, (wipeS st vs).length = st.length
  | [] => rfl
  | v :: vs => by rw [wipeS, List.length_set, wipeS_len st vs]
theorem RepS.wipe (r : RepS Z m st h σ H) : ∀ vs : List Nat, RepS Z m (wipeS st vs) h (L2.wipe σ vs) H
  | [] => r
  | v :: vs => by
    have ih := RepS.wipe r vs
    refine ⟨r.rep, by rw [wipeS_len, L2.wipe_length]; exact r.len, fun j w q => ?_⟩
    rw [wipeS] at q
    rw [L2.wipe]
    by_cases hj : v = j
    · subst hj
      by_cases hl : v < (wipeS st vs).length
      · rw [List.getElem?_set_self hl] at q; cases q
      · rw [List.getElem?_eq_none (by simpa using hl)] at q; cases q
    · rw [List.getElem?_set_ne hj] at q ⊢
      exact ih.sl j w q
end
theorem wipe_set_in {σ : St} {j : Nat} {y : Option V} : ∀ {vs : List Nat}, j ∈ vs → L2.wipe (σ.set j y) vs = L2.wipe σ vs
  | v :: vs, h => by
    rw [L2.wipe, L2.wipe]
    by_cases hv : j = v
    · subst hv
      by_cases hm : j ∈ vs
      · rw [wipe_set_in hm]
      · have e : ∀ ws : List Nat, j ∉ ws → L2.wipe (σ.set j y) ws = (L2.wipe σ ws).set j y := fun ws => by
          induction ws with
          | nil => intro _; rfl
          | cons w ws ih =>
            intro hw
            rw [List.mem_cons, not_or] at hw
            rw [L2.wipe, L2.wipe, ih hw.2, List.set_comm _ _ hw.1]
        rw [e vs hm, List.set_set]
    · rw [wipe_set_in ((List.mem_cons.mp h).resolve_left hv)]
theorem wipe_ent {σ : St} : ∀ {vs : List Nat} {j : Nat}, j ∈ vs → (L2.wipe σ vs).set j none = L2.wipe σ vs
  | v :: vs, j, h => by
    rw [L2.wipe]
    by_cases hv : j = v
    · subst hv; rw [List.set_set]
    · rw [List.set_comm _ _ (Ne.symm hv), wipe_ent ((List.mem_cons.mp h).resolve_left hv)]
theorem wipe_sub {σ : St} {ws : List Nat} : ∀ {vs : List Nat}, (∀ j ∈ vs, j ∈ ws) → L2.wipe (L2.wipe σ ws) vs = L2.wipe σ ws
  | [], _ => rfl
  | v :: vs, h => by
    rw [L2.wipe, wipe_sub (fun j hj => h j (List.mem_cons_of_mem _ hj)), wipe_ent (h v List.mem_cons_self)]
theorem wipe_wipe {σ : St} {vs : List Nat} : L2.wipe (L2.wipe σ vs) vs = L2.wipe σ vs := wipe_sub fun _ h => h

/-! ### what is wanted behind a result, with what is wanted of an exception -/
abbrev WT (α : Type) := α → List Addr → Hs → Hp → Prop
abbrev WX := Nat → List Val → List Addr → Hs → Hp → Prop
def PostG {α : Type} (Z : Ev) (EX : WX) (m : List Addr) (H : Hp) (r : R α) (W : WT α) : Prop := match r with
  | .ok a h => ∀ m' H', Ext m H m' H' → Rep Z m' h H' → W a m' h H'
  | .exc c vs h => ∀ m' H', Ext m H m' H' → Rep Z m' h H' → EX c vs m' h H'
  | .stk => False
def wV (Z : Ev) (Q : VK) : WT Val := fun v m _ H => ∀ x, RV Z.K m H v x → Q x H
def wB (Q : Bool → Hp → Prop) : WT Bool := fun b _ _ H => Q b H
def wL (Z : Ev) (Q : List V → Hp → Prop) : WT (List Val) := fun vs m _ H => ∀ xs, RVs Z.K m H vs xs → Q xs H
def wO (Q : Option Int → Hp → Prop) : WT (Option Int) := fun o _ _ H => Q o H
def noE : WX := fun _ _ _ _ _ => False
section
variable {Z : Ev} {EX : WX} {m m1 : List Addr} {h : Hs} {H H1 : Hp} {α β : Type}
theorem PostG.mono {r : R α} {W : WT α} (p : PostG Z EX m H r W) (e : Ext m H m1 H1) : PostG Z EX m1 H1 r W := by
  cases r with
  | ok v h => exact fun m' H' e' r => p m' H' (e.trans e') r
  | exc _ _ _ => exact fun m' H' e' r => p m' H' (e.trans e') r
  | stk => exact p
theorem PostG.at_ {a : α} {W : WT α} (p : PostG Z EX m H (.ok a h) W) (r : Rep Z m h H) : W a m h H := p m H (Ext.refl m H) r
def R.pure {α : Type} (r : R α) : Prop := ∀ c vs h, r ≠ .exc c vs h
/-- an operation without exceptions, with more to follow -/
theorem Post.seq {r : R Val} {f : Val → Hs → R β} {W : WT β} {K : VK} (hp : r.pure) (p : PostG Z EX m H (r.bind f) W)
    (k : ∀ m1 H1 x v h1, r = .ok v h1 → Ext m H m1 H1 → Rep Z m1 h1 H1 → RV Z.K m1 H1 v x → PostG Z EX m1 H1 (f v h1) W → K x H1) : Post Z m H r K := by
  cases r with
  | ok v h1 => exact fun m' H' x e r rv => k m' H' x v h1 rfl e r rv (PostG.mono (r := f v h1) p e)
  | exc c vs h1 => exact absurd rfl (hp c vs h1)
  | stk => exact p
theorem Post.end_ {r : R Val} {Q : VK} (hp : r.pure) (p : PostG Z EX m H r (wV Z Q)) : Post Z m H r Q := by
  cases r with
  | ok v h1 => exact fun m' H' x e r rv => p m' H' e r x rv
  | exc c vs h1 => exact absurd rfl (hp c vs h1)
  | stk => exact p
theorem PostG.ofO {o : Option α} {f : α → Hs → R β} {W : WT β} (p : PostG Z EX m H ((ofO o h).bind f) W) : ∃ a, o = some a ∧ PostG Z EX m H (f a h) W := by
  cases o with
  | some a => exact ⟨a, rfl, p⟩
  | none => exact False.elim p
/-- what runs without exceptions -/
theorem PostG.noX {r : R α} {f : α → Hs → R β} {W : WT β} (p : PostG Z EX m H ((noX r).bind f) W) : PostG Z noE m H r (fun a m' h' H' => PostG Z EX m' H' (f a h') W) := by
  cases r with
  | ok v h1 => exact fun m' H' e r => PostG.mono (r := f v h1) p e
  | exc _ _ _ => exact False.elim p
  | stk => exact False.elim p
end
theorem pure_ok {α : Type} (a : α) (h : Hs) : (R.ok a h).pure := fun _ _ _ e => by cases e
theorem pure_stk {α : Type} : (R.stk : R α).pure := fun _ _ _ e => by cases e
theorem pure_ofO {α : Type} (o : Option α) (h : Hs) : (ofO o h).pure := by cases o; exact pure_stk; exact pure_ok _ _
theorem pure_bind {α β : Type} {r : R α} {f : α → Hs → R β} (h : r.pure) (hf : ∀ a h, (f a h).pure) : (r.bind f).pure := by
  cases r with
  | ok a h1 => exact hf a h1
  | exc c vs h1 => exact absurd rfl (h c vs h1)
  | stk => exact pure_stk
theorem pure_new (o : Ob) (h : Hs) : (new o h).pure := pure_ok _ _
theorem pure_ite {α : Type} {c : Prop} [Decidable c] {r s : R α} (h : r.pure) (h' : s.pure) : (if c then r else s).pure := by split <;> assumption
theorem pure_binF (op : Operator) (a b : Val) (h : Hs) : (binF op a b h).pure := by
  unfold binF
  repeat' first
    | exact pure_ok _ _
    | exact pure_stk
    | exact pure_new _ _
    | split
theorem pure_cmpF (op : CmpOp) (a b : Val) (h : Hs) : (cmpF op a b h).pure := by
  unfold cmpF
  repeat' first
    | exact pure_ok _ _
    | exact pure_stk
    | exact pure_bind (pure_ofO _ _) fun _ _ => pure_ok _ _
    | split
theorem pure_ixL (vs : List Val) (b : Val) (h : Hs) : (ixL vs b h).pure := by
  unfold ixL
  repeat' first
    | exact pure_stk
    | exact pure_ofO _ _
    | split
theorem pure_ixF (a b : Val) (h : Hs) : (ixF a b h).pure := by
  unfold ixF
  repeat' first
    | exact pure_ok _ _
    | exact pure_stk
    | exact pure_ixL _ _ _
    | exact pure_ofO _ _
    | exact pure_bind (pure_ofO _ _) fun _ _ => pure_ok _ _
    | split
theorem pure_slF (a : Val) (lo hi : Option Int) (h : Hs) : (slF a lo hi h).pure := by
  unfold slF
  repeat' first
    | exact pure_ok _ _
    | exact pure_stk
    | exact pure_new _ _
    | split
theorem pure_fldF (a : Val) (f : Nat) (h : Hs) : (fldF a f h).pure := by
  unfold fldF
  repeat' first
    | exact pure_stk
    | exact pure_ofO _ _
    | split
theorem pure_mnK (f : List Int → Option Int) (o : Option (List Val)) (h : Hs) : (mnK f o h).pure := by
  unfold mnK
  repeat' first
    | exact pure_ok _ _
    | exact pure_stk
    | split
theorem pure_srtPF (o : Option (List (Int × Int))) (h : Hs) : (srtPF o h).pure := by
  unfold srtPF
  repeat' first
    | exact pure_stk
    | exact pure_new _ _
    | split
theorem pure_primF (p : Prim) (vs : List Val) (h : Hs) : (primF p vs h).pure := by
  unfold primF
  repeat' first
    | exact pure_mnK _ _ _
    | exact pure_srtPF _ _
    | exact pure_ok _ _
    | exact pure_stk
    | exact pure_new _ _
    | exact pure_ofO _ _
    | split
theorem pure_pmF (p : PM) (o : Val) (vs : List Val) (h : Hs) : (pmF p o vs h).pure := by
  unfold pmF
  repeat' first
    | exact pure_ok _ _
    | exact pure_stk
    | exact pure_new _ _
    | exact pure_ofO _ _
    | exact pure_bind (pure_ofO _ _) fun _ _ => pure_ok _ _
    | split

/-! ### readings -/
section
variable (Z : Ev) (EX : WX) (C : Calls)
def tE (e : E) : TE := fun σ H Q => ∃ m st h, RepS Z m st h σ H ∧ PostG Z EX m H (ev C e st h) (wV Z Q)
def tT (e : E) : TT := fun σ H Q => ∃ m st h, RepS Z m st h σ H ∧ PostG Z EX m H (et C e st h) (wB Q)
def tEs (es : Es) : TA := fun σ H Q => ∃ m st h, RepS Z m st h σ H ∧ PostG Z EX m H (evs C es st h) (wL Z Q)
def tEo (e : Eo) : TO := fun σ H Q => ∃ m st h, RepS Z m st h σ H ∧ PostG Z EX m H (evo C e st h) (wO Q)
def tEc (e : Eo) : TT := fun σ H Q => ∃ m st h, RepS Z m st h σ H ∧ PostG Z EX m H (etc C e st h) (wB Q)
end
section
variable {Z : Ev} {EX : WX} {C : Calls} {m : List Addr} {h : Hs} {H : Hp} {st : Sl} {σ : St} {β : Type} {W : WT β}
theorem stepE {e : E} {f : Val → Hs → R β} (rs : RepS Z m st h σ H) (p : PostG Z EX m H ((ev C e st h).bind f) W) {K : VK}
    (k : ∀ m1 H1 x v h1, Ext m H m1 H1 → RepS Z m1 st h1 σ H1 → RV Z.K m1 H1 v x → PostG Z EX m1 H1 (f v h1) W → K x H1) : tE Z EX C e σ H K := by
  refine ⟨m, st, h, rs, ?_⟩
  cases q : ev C e st h with
  | ok v h1 => rw [q] at p; exact fun m' H' ex r x rv => k m' H' x v h1 ex (rs.mono ex r) rv (PostG.mono (r := f v h1) p ex)
  | exc c vs h1 => rw [q] at p; exact p
  | stk => rw [q] at p; exact p
theorem stepT {e : E} {f : Bool → Hs → R β} (rs : RepS Z m st h σ H) (p : PostG Z EX m H ((et C e st h).bind f) W) {K : Bool → Hp → Prop}
    (k : ∀ m1 H1 b h1, Ext m H m1 H1 → RepS Z m1 st h1 σ H1 → PostG Z EX m1 H1 (f b h1) W → K b H1) : tT Z EX C e σ H K := by
  refine ⟨m, st, h, rs, ?_⟩
  cases q : et C e st h with
  | ok v h1 => rw [q] at p; exact fun m' H' ex r => k m' H' v h1 ex (rs.mono ex r) (PostG.mono (r := f v h1) p ex)
  | exc c vs h1 => rw [q] at p; exact p
  | stk => rw [q] at p; exact p
theorem stepEs {es : Es} {f : List Val → Hs → R β} (rs : RepS Z m st h σ H) (p : PostG Z EX m H ((evs C es st h).bind f) W) {K : List V → Hp → Prop}
    (k : ∀ m1 H1 xs vs h1, Ext m H m1 H1 → RepS Z m1 st h1 σ H1 → RVs Z.K m1 H1 vs xs → PostG Z EX m1 H1 (f vs h1) W → K xs H1) : tEs Z EX C es σ H K := by
  refine ⟨m, st, h, rs, ?_⟩
  cases q : evs C es st h with
  | ok v h1 => rw [q] at p; exact fun m' H' ex r x rv => k m' H' x v h1 ex (rs.mono ex r) rv (PostG.mono (r := f v h1) p ex)
  | exc c vs h1 => rw [q] at p; exact p
  | stk => rw [q] at p; exact p
theorem stepEo {e : Eo} {f : Option Int → Hs → R β} (rs : RepS Z m st h σ H) (p : PostG Z EX m H ((evo C e st h).bind f) W) {K : Option Int → Hp → Prop}
    (k : ∀ m1 H1 b h1, Ext m H m1 H1 → RepS Z m1 st h1 σ H1 → PostG Z EX m1 H1 (f b h1) W → K b H1) : tEo Z EX C e σ H K := by
  refine ⟨m, st, h, rs, ?_⟩
  cases q : evo C e st h with
  | ok v h1 => rw [q] at p; exact fun m' H' ex r => k m' H' v h1 ex (rs.mono ex r) (PostG.mono (r := f v h1) p ex)
  | exc c vs h1 => rw [q] at p; exact p
  | stk => rw [q] at p; exact p
theorem stepEc {e : Eo} {f : Bool → Hs → R β} (rs : RepS Z m st h σ H) (p : PostG Z EX m H ((etc C e st h).bind f) W) {K : Bool → Hp → Prop}
    (k : ∀ m1 H1 b h1, Ext m H m1 H1 → RepS Z m1 st h1 σ H1 → PostG Z EX m1 H1 (f b h1) W → K b H1) : tEc Z EX C e σ H K := by
  refine ⟨m, st, h, rs, ?_⟩
  cases q : etc C e st h with
  | ok v h1 => rw [q] at p; exact fun m' H' ex r => k m' H' v h1 ex (rs.mono ex r) (PostG.mono (r := f v h1) p ex)
  | exc c vs h1 => rw [q] at p; exact p
  | stk => rw [q] at p; exact p
end
/-! ### weaker readings -/
section
variable {X : Cx}
theorem pe_any {e : Expr} {t : TE} (h : ∀ σ H Q, t σ H Q → ∃ t', PE X e t' ∧ t' σ H Q) : PE X e t := ⟨fun pins s σ H Q I q => let ⟨_, p, q'⟩ := h σ H Q q; p.run pins s σ H Q I q'⟩
theorem pe_w {e : Expr} {t t' : TE} (p : PE X e t) (h : ∀ σ H Q, t' σ H Q → t σ H Q) : PE X e t' := ⟨fun pins s σ H Q I q => p.run pins s σ H Q I (h σ H Q q)⟩
theorem pt_w {e : Expr} {t t' : TT} (p : PT X e t) (h : ∀ σ H Q, t' σ H Q → t σ H Q) : PT X e t' := ⟨fun pins s σ H Q I q => p.run pins s σ H Q I (h σ H Q q)⟩
theorem pw_w {e : Expr} {t t' : TT} (p : PW X e t) (h : ∀ σ H Q, t' σ H Q → t σ H Q) : PW X e t' := ⟨fun w pins s σ H Q I q => p.run w pins s σ H Q I (h σ H Q q)⟩
theorem pa_w {e : List Expr} {t t' : TA} (p : PA X e t) (h : ∀ σ H Q, t' σ H Q → t σ H Q) : PA X e t' := ⟨fun pos pins s σ H Q I q => p.run pos pins s σ H Q I (h σ H Q q)⟩
theorem po_w {e : Option Expr} {t t' : TO} (p : PO X e t) (h : ∀ σ H Q, t' σ H Q → t σ H Q) : PO X e t' := ⟨fun pins s σ H Q I q => p.run pins s σ H Q I (h σ H Q q)⟩
theorem pts_w {e : List Expr} {t t' : TT} (p : PTs X e t) (h : ∀ σ H Q, t' σ H Q → t σ H Q) : PTs X e t' := ⟨fun pins s σ H Q I q => p.run pins s σ H Q I (h σ H Q q)⟩
theorem pi_any {tg e : Expr} {t : TI} (h : ∀ σ H Q, t σ H Q → ∃ t', PI X tg e t' ∧ t' σ H Q) : PI X tg e t := ⟨fun pins s σ H Q I q => let ⟨_, p, q'⟩ := h σ H Q q; p.run pins s σ H Q I q'⟩
theorem ps_any {e : Stmt} {t : TS} (h : ∀ D σ H, t D σ H → ∃ t', PS X e t' ∧ t' D σ H) : PS X e t := ⟨fun pins s σ H D I q => let ⟨_, p, q'⟩ := h D σ H q; p.run pins s σ H D I q'⟩
theorem ps_w {e : Stmt} {t t' : TS} (p : PS X e t) (h : ∀ D σ H, t' D σ H → t D σ H) : PS X e t' := ⟨fun pins s σ H D I q => p.run pins s σ H D I (h D σ H q)⟩
theorem pss_w {e : List Stmt} {t t' : TS} (p : PSs X e t) (h : ∀ D σ H, t' D σ H → t D σ H) : PSs X e t' := ⟨fun pins s σ H D I q => p.run pins s σ H D I (h D σ H q)⟩
end
/-! ### the text -/
section
variable {env : Env}
theorem star_cons {x : Expr} {r : List Expr} (h : notStar x = true) : starEach (x :: r) env = (false, eval x env) :: starEach r env := by
  cases x <;> first | rfl | (exact Bool.noConfusion h)
theorem star_any {pos : Pos} : ∀ {xs : List Expr}, xs.all notStar = true → (backTo pos (starEach xs env)).any (·.1) = false
  | [], _ => rfl
  | x :: r, h => by
    rw [List.all_cons, Bool.and_eq_true] at h
    rw [star_cons h.1]
    show (false || (backTo pos (starEach r env)).any (·.1)) = false
    rw [star_any h.2]
    rfl
theorem star_all {pos : Pos} : ∀ {xs : List Expr}, xs.all notStar = true → (backTo pos (starEach xs env)).all (fun x => !x.1) = true
  | [], _ => rfl
  | x :: r, h => by
    rw [List.all_cons, Bool.and_eq_true] at h
    rw [star_cons h.1]
    show (true && (backTo pos (starEach r env)).all (fun x => !x.1)) = true
    rw [star_all h.2]
    rfl
theorem few_ok {pos : Pos} {xs : List Expr} (h : xs.all notStar = true) (hl : xs.length < 29) :
    ((backTo pos (starEach xs env)).all (fun x => !x.1) && (backToKw pos (keywordEach [] env)).all (fun x => x.1.isSome)
      && decide (xs.length + ([] : List Keyword).length + (if ([] : List Keyword).isEmpty then 0 else 1) < 30)) = true := by
  rw [star_all h]
  show (true && true && decide (xs.length + 0 + 0 < 30)) = true
  rw [decide_eq_true (by omega)]
  rfl
theorem abase {o : Expr} {f : Str} {w : Sem Value} (h : notSuper o = true) : attributeBase o f env w = w := by
  cases o with
  | Call g a k p =>
    cases g with
    | Name id p2 =>
      cases a with
      | nil =>
        cases k with
        | nil => exact abase_call h
        | cons _ _ => rfl
      | cons _ _ => rfl
    | _ => rfl
  | _ => rfl
theorem nomark_set {op : CmpOp} {b : Expr} (h : notSet b = true) : behindInMarks op b = false := by
  cases b <;> first | rfl | (exact Bool.noConfusion h)
theorem lastm {op op2 : CmpOp} {b c : Expr} (h2 : notSet c = true) : lastMarks [op, op2] [b, c] = false := nomark_set h2
theorem noset_fold {b : Expr} (h : notSet b = true) : ∀ x, foldedSetIterable b env x = pure x := by
  intro x
  cases b <;> first | rfl | (exact Bool.noConfusion h)
theorem plainIx {b : Expr} (h : notSlice b = true) : PlainIx b := by
  intro o i
  cases b <;> first | rfl | (exact Bool.noConfusion h)
theorem pt_ife {X : Cx} {c a b : Expr} {pos : Pos} {tc ta tb : TT} (hc : PT X c tc) (ha : PT X a ta) (hb : PT X b tb) :
    PT X (.IfExp c a b pos) (fun σ H Q => tc σ H fun k H1 => if k = true then ta σ H1 Q else tb σ H1 Q) := by
  refine ⟨fun pins s σ H Q I h => ?_⟩
  rw [arm_isTrue_IfExp]
  refine wpAny_bind (thn (hc.run pins s σ H _ I h) fun k s1 ⟨H1, I1, q1⟩ => ?_)
  cases k with
  | true => rw [if_pos rfl]; exact ha.run pins s1 σ H1 Q I1 q1
  | false => rw [if_neg Bool.false_ne_true]; exact hb.run pins s1 σ H1 Q I1 q1
end
end MP

set_option Elab.async false
set_option linter.all false
set_option maxRecDepth 100000
set_option maxHeartbeats 4000000
set_option autoImplicit false
/-! MPh: targets, what is walked, displays, comprehensions: by values. -/
namespace MP
open PySem PySem.Spec L2
open PyProof.Rows hiding St

/-! ### targets -/
def gNs : List Nat → TGs
  | [] => gNil
  | j :: js => gCons (gName j) (gNs js)
def gOf (K : PySem.W.Frag) : Tg → TG
  | .nm i => gName i
  | .tup js => gTup K js.length (gNs js)
section
variable {Z : Ev} {m : List Addr} {h : Hs} {H : Hp}
theorem gNs_ok : ∀ {js : List Nat} {vs : List Val} {xs : List V} {st st1 : Sl} {σ : St} {Q : St → Hp → Prop}, RepS Z m st h σ H → RVs Z.K m H vs xs → setTs js vs st = some st1 →
    (∀ σ1, RepS Z m st1 h σ1 H → (∀ ws : List Nat, (∀ j ∈ js, j ∈ ws) → L2.wipe σ1 ws = L2.wipe σ ws) → Q σ1 H) → gNs js xs σ H Q
  | [], [], _, st, st1, σ, Q, rs, rv, e, k => by
    cases rv
    cases e
    exact ⟨rfl, k σ rs fun _ _ => rfl⟩
  | [], _ :: _, _, _, _, _, _, _, _, e, _ => by cases e
  | _ :: _, [], _, _, _, _, _, _, _, e, _ => by cases e
  | j :: js, v :: vs, _, st, st1, σ, Q, rs, rv, e, k => by
    cases rv with
    | cons r1 r2 =>
      refine ⟨_, _, rfl, ?_⟩
      refine gNs_ok (rs.put j r1) r2 e fun σ1 rs1 hw => k σ1 rs1 fun ws hj => ?_
      rw [hw ws fun i hi => hj i (List.mem_cons_of_mem _ hi), wipe_set_in (hj j List.mem_cons_self)]
theorem setTs_len : ∀ {js : List Nat} {vs : List Val} {st st1 : Sl}, setTs js vs st = some st1 → vs.length = js.length
  | [], [], _, _, _ => rfl
  | [], _ :: _, _, _, e => by cases e
  | _ :: _, [], _, _, e => by cases e
  | j :: js, v :: vs, st, st1, e => by rw [List.length_cons, List.length_cons, setTs_len (js := js) e]
theorem setT_ok {t : Tg} {v : Val} {x : V} {st st1 : Sl} {σ : St} {Q : St → Hp → Prop} (rs : RepS Z m st h σ H) (rv : RV Z.K m H v x) (e : setT t v st = some st1)
    (k : ∀ σ1, RepS Z m st1 h σ1 H → (∀ ws : List Nat, (∀ j ∈ tgI t, j ∈ ws) → L2.wipe σ1 ws = L2.wipe σ ws) → Q σ1 H) : gOf Z.K t x σ H Q := by
  cases t with
  | nm i =>
    cases e
    exact k _ (rs.put i rv) fun ws hj => wipe_set_in (hj i List.mem_cons_self)
  | tup js =>
    cases rv with
    | tup h1 h2 => exact ⟨_, _, rfl, h1, by rw [← h2.len]; exact setTs_len e, gNs_ok rs h2 e k⟩
    | _ => cases e
end
section
variable {k : Sc} {X : Cx}
theorem locB_loc {x : Str} (h : locB k x = true) (hs : X.env.scope = k.sc) : Loc X.env.scope x := by
  unfold locB at h
  rw [hs]
  cases q : k.sc.names.lookup x with
  | none => rw [q] at h; cases h
  | some w =>
    rw [q] at h
    cases w <;> first | exact .inl q | exact .inr q | cases h
theorem locB_fn {x : Str} (h : locB k x = true) (hs : X.env.scope = k.sc) (hf : ∀ x, k.fnb x = true → X.fn x = true) : X.fn x = true ∨ X.env.scope.names.lookup x = some .local := by
  unfold locB at h
  rw [hs]
  cases q : k.sc.names.lookup x with
  | none => rw [q] at h; cases h
  | some w =>
    rw [q] at h
    cases w <;> first | exact .inr rfl | exact .inl (hf x h) | cases h
theorem pg_nm {i : Nat} {x : Str} {p : Pos} (hN : X.N = k.N) (nd : k.N.Nodup) (hs : X.env.scope = k.sc) (hf : ∀ x, k.fnb x = true → X.fn x = true) (hi : k.N[i]? = some x) (hl : locB k x = true) : PG X (.Name x p) (gName i) :=
  pg_name (by rw [hN]; exact nd) (by rw [hN]; exact hi) (locB_loc hl hs) (locB_fn hl hs hf)
def nmQ (k : Sc) (q : Expr × Nat) : Bool := match q.1 with
  | .Name x _ => decide (k.N[q.2]? = some x) && locB k x
  | _ => false
theorem nms_all : ∀ {es : List Expr} {js : List Nat}, es.length = js.length → (es.zip js).all (nmQ k) = true → (assignEach es X.env).findIdx? (·.1) = none
  | [], _, _, _ => rfl
  | e :: es, [], h, _ => by cases h
  | e :: es, j :: js, h, q => by
    rw [List.zip_cons_cons, List.all_cons, Bool.and_eq_true] at q
    have ih := nms_all (es := es) (js := js) (by simpa using h) q.2
    cases e <;> first
      | (exact Bool.noConfusion q.1)
      | (show List.findIdx? (·.1) ((false, _) :: assignEach es X.env) = none
         rw [List.findIdx?_cons, ih]
         rfl)
theorem nms_len : ∀ {es : List Expr}, (assignEach es X.env).length = es.length
  | [] => rfl
  | e :: es => by
    have ih := nms_len (es := es)
    cases e <;> (show (_ :: assignEach es X.env).length = _; rw [List.length_cons, List.length_cons, ih])
theorem pgs_nms (hN : X.N = k.N) (nd : k.N.Nodup) (hs : X.env.scope = k.sc) (hf : ∀ x, k.fnb x = true → X.fn x = true) : ∀ {es : List Expr} {js : List Nat}, es.length = js.length → (es.zip js).all (nmQ k) = true → PGs X es (gNs js)
  | [], [], _, _ => pgs_nil
  | [], _ :: _, h, _ => by cases h
  | e :: es, [], h, _ => by cases h
  | e :: es, j :: js, h, q => by
    rw [List.zip_cons_cons, List.all_cons, Bool.and_eq_true] at q
    have ih := pgs_nms hN nd hs hf (es := es) (js := js) (by simpa using h) q.2
    cases e with
    | Name x p =>
      have q1 := q.1
      simp only [nmQ, Bool.and_eq_true, decide_eq_true_eq] at q1
      exact pgs_cons (pg_nm hN nd hs hf q1.1 q1.2) ih rfl
    | _ => exact Bool.noConfusion q.1
theorem pg_of (hN : X.N = k.N) (nd : k.N.Nodup) (hs : X.env.scope = k.sc) (hf : ∀ x, k.fnb x = true → X.fn x = true) (hc : X.calm = true) {t : Tg} {py : Expr} (h : chkT k t py = true) : PG X py (gOf X.K t) := by
  cases t with
  | nm i =>
    cases py with
    | Name x p =>
      simp only [chkT, Bool.and_eq_true, decide_eq_true_eq] at h
      exact pg_nm hN nd hs hf h.1 h.2
    | _ => exact Bool.noConfusion h
  | tup js =>
    cases py with
    | Tuple es kk p =>
      simp only [chkT, Bool.and_eq_true, decide_eq_true_eq] at h
      have h2 : (es.zip js).all (nmQ k) = true := h.2
      exact pg_tup hc (pgs_nms hN nd hs hf h.1 h2) (by rw [nms_len]; exact h.1) (nms_all h.1 h2)
    | _ => exact Bool.noConfusion h
end

/-! ### what is walked -/
def JR (Z : Ev) (m : List Addr) (H : Hp) (src : Src) (J : It) : Prop := ∀ m' h' H', Ext m H m' H' → Rep Z m' h' H' → src.ok h' = true → ∀ i,
  (∀ v, src.items[i]? = some v → J.go i H' ∧ ∀ x H'', J.yld i H' x H'' → ∃ m'', Ext m' H' m'' H'' ∧ Rep Z m'' h' H'' ∧ RV Z.K m'' H'' v x) ∧ (src.items.length ≤ i → J.stop i H')
section
variable {Z : Ev} {m : List Addr} {h : Hs} {H : Hp}
theorem jr_tup {a : Addr} {vs : List Val} {xs : List V} (hq : SqT Z.K H a xs) (rv : RVs Z.K m H vs xs) : JR Z m H (.vals vs) (Itt Z.K a) := by
  intro m' h' H' e r _ i
  have rv' := RVs.mono e _ _ rv
  refine ⟨fun v hv => ?_, fun hl => ⟨xs, e.sqT hq, by rw [← rv.len]; exact hl⟩⟩
  obtain ⟨x, hx, rx⟩ := rv'.get hv
  refine ⟨⟨xs, x, e.sqT hq, hx⟩, fun y H'' q => ?_⟩
  obtain ⟨q1, q2⟩ := q
  subst q1
  have := q2 xs (e.sqT hq)
  rw [hx] at this
  cases this
  exact ⟨m', Ext.refl _ _, r, rx⟩
theorem jr_str (s : List Nat) : JR Z m H (.vals (s.map fun c => .str [c])) (Its (mk s)) := by
  intro m' h' H' e r _ i
  refine ⟨fun v hv => ?_, fun hl => by simpa [Src.items, Its, mk] using hl⟩
  simp only [Src.items, List.getElem?_map, Option.map_eq_some_iff] at hv
  obtain ⟨c, hc, rfl⟩ := hv
  refine ⟨by have := (List.getElem?_eq_some_iff.mp hc).1; simpa [Its, mk] using this, fun y H'' q => ?_⟩
  obtain ⟨q1, c', q2, q3⟩ := q
  subst q1 q3
  have : s[i]? = some c' := by simpa [mk] using q2
  rw [hc] at this
  cases this
  exact ⟨m', Ext.refl _ _, r, .str [c]⟩
theorem rangeV_len (c : Int) : ∀ (n : Nat) (lo : Int), (rangeV lo c n).length = n
  | 0, _ => rfl
  | n + 1, lo => by rw [rangeV, List.length_cons, rangeV_len c n]
theorem rangeV_get (c : Int) : ∀ (n : Nat) (lo : Int) (i : Nat) (v : Val), (rangeV lo c n)[i]? = some v → i < n ∧ v = .int (lo + (i : Int) * c)
  | 0, _, _, _, h => by simp [rangeV] at h
  | n + 1, lo, 0, v, h => by
    simp only [rangeV, List.getElem?_cons_zero, Option.some.injEq] at h
    exact ⟨by omega, by rw [← h]; congr 1; simp⟩
  | n + 1, lo, i + 1, v, h => by
    simp only [rangeV, List.getElem?_cons_succ] at h
    obtain ⟨h1, h2⟩ := rangeV_get c n _ i v h
    refine ⟨by omega, by rw [h2]; congr 1; push_cast; rw [Int.add_mul]; omega⟩
theorem jr_rng (lo : Int) (n : Nat) : JR Z m H (.vals (rangeV lo 1 n)) (Itr lo n) := by
  intro m' h' H' e r _ i
  refine ⟨fun v hv => ?_, fun hl => by simpa [Src.items, Itr, rangeV_len] using hl⟩
  obtain ⟨h1, h2⟩ := rangeV_get 1 n lo i v hv
  refine ⟨h1, fun y H'' q => ?_⟩
  obtain ⟨q1, q2⟩ := q
  subst q1 q2
  refine ⟨m', Ext.refl _ _, r, ?_⟩
  rw [h2, Int.mul_one]
  exact .int _
theorem jr_rngC (lo c : Int) (n : Nat) : JR Z m H (.vals (rangeV lo c n)) (Itc lo c n) := by
  intro m' h' H' e r _ i
  refine ⟨fun v hv => ?_, fun hl => by simpa [Src.items, Itc, rangeV_len] using hl⟩
  obtain ⟨h1, h2⟩ := rangeV_get c n lo i v hv
  refine ⟨h1, fun y H'' q => ?_⟩
  obtain ⟨q1, q2⟩ := q
  subst q1 q2
  refine ⟨m', Ext.refl _ _, r, ?_⟩
  rw [h2]
  exact .int _
theorem srcok_lst {n : Nat} {vs : List Val} (h : Hs) (e : (Src.lst n vs).ok h = true) : h[n]? = some (.lst vs) ∨ h[n]? = some (.frz vs) := by
  simp only [Src.ok] at e
  split at e
  · rename_i ws q; rw [Val.beqs_eq _ _ e] at q; exact .inl q
  · rename_i ws q; rw [Val.beqs_eq _ _ e] at q; exact .inr q
  · cases e
theorem jr_lst {n : Nat} {a : Addr} {vs : List Val} (hn : m[n]? = some a) : JR Z m H (.lst n vs) (Itl Z.K a) := by
  intro m' h' H' e r ok i
  obtain ⟨xs, hq, rv⟩ := r.seqL (e.pre _ _ hn) (srcok_lst h' ok)
  refine ⟨fun v hv => ?_, fun hl => ⟨xs, hq, by rw [← rv.len]; exact hl⟩⟩
  obtain ⟨x, hx, rx⟩ := rv.get hv
  refine ⟨⟨xs, x, hq, hx⟩, fun y H'' q => ?_⟩
  obtain ⟨q1, q2⟩ := q
  subst q1
  have := q2 xs hq
  rw [hx] at this
  cases this
  exact ⟨m', Ext.refl _ _, r, rx⟩
theorem enumV_len : ∀ (vs : List Val) (k : Nat), (enumV k vs).length = vs.length
  | [], _ => rfl
  | v :: vs, k => by rw [enumV, List.length_cons, List.length_cons, enumV_len vs]
theorem enumV_get : ∀ (vs : List Val) (k i : Nat) (w : Val), (enumV k vs)[i]? = some w → ∃ v, vs[i]? = some v ∧ w = .tup [.int ((k + i : Nat) : Int), v]
  | [], _, _, _, h => by simp [enumV] at h
  | v :: vs, k, 0, w, h => by
    simp only [enumV, List.getElem?_cons_zero, Option.some.injEq] at h
    exact ⟨v, rfl, by rw [← h]; rfl⟩
  | v :: vs, k, i + 1, w, h => by
    simp only [enumV, List.getElem?_cons_succ] at h
    obtain ⟨u, h1, h2⟩ := enumV_get vs (k + 1) i w h
    exact ⟨u, by simpa using h1, by rw [h2]; congr 4; omega⟩
theorem jr_enu {n : Nat} {a : Addr} {vs : List Val} (hn : m[n]? = some a) : JR Z m H (.enu n vs) (Ite Z.K a) := by
  intro m' h' H' e r ok i
  obtain ⟨xs, hq, rv⟩ := r.seqL (e.pre _ _ hn) (srcok_lst (n := n) (vs := vs) h' ok)
  refine ⟨fun w hv => ?_, fun hl => ⟨xs, hq, by rw [← rv.len]; simpa [Src.items, enumV_len] using hl⟩⟩
  obtain ⟨v, hv, ew⟩ := enumV_get vs 0 i w hv
  obtain ⟨x, hx, rx⟩ := rv.get hv
  refine ⟨⟨xs, x, hq, hx⟩, fun y H'' q => ?_⟩
  obtain ⟨T, x', e1, hT, e2, q2⟩ := q
  subst e1 e2
  have := q2 xs hq
  rw [hx] at this
  cases this
  have ex : Ext m' H' m' (upd H' T (.tup [.int (i : Nat), x])) := ext_new0 hT
  refine ⟨m', ex, r.lay hT, ?_⟩
  rw [ew]
  refine .tup (SqT.of upd_same) (.cons ?_ (.cons (RV.mono ex _ _ rx) .nil))
  rw [Nat.zero_add]
  exact .int _
end

/-! ### displays of dicts -/
def pairV : List V → List (V × V)
  | x :: y :: r => (x, y) :: pairV r
  | _ => []
section
variable {K : PySem.W.Frag} {m : List Addr} {H : Hp}
theorem pairs_rv : ∀ {vs : List Val} {xs : List V} {kvs : List (Ky × Val)}, RVs K m H vs xs → pairsOf vs = some kvs → ∃ kxs : List (Key × V), pairV xs = kxs.map (fun kv => (kV kv.1, kv.2)) ∧ DR K m H kvs kxs
  | [], _, kvs, rv, e => by cases rv; cases e; exact ⟨[], rfl, .nil⟩
  | [_], _, _, _, e => by cases e
  | k :: v :: r, _, kvs, rv, e => by
    cases rv with
    | cons r1 rr =>
      cases rr with
      | cons r2 rr =>
        simp only [pairsOf] at e
        split at e
        · rename_i ky ps e1 e2
          cases e
          obtain ⟨kxs, z1, z2⟩ := pairs_rv rr e2
          refine ⟨(kyK ky, _) :: kxs, ?_, .cons r2 z2⟩
          rw [toKy_rv r1 e1]
          show (_, _) :: pairV _ = _
          rw [z1]
          rfl
        · cases e
theorem DR.fold : ∀ {more : List (Ky × Val)} {mx : List (Key × V)} {r : List (Ky × Val)} {s : List (Key × V)}, DR K m H more mx → DR K m H r s → DR K m H (more.foldl (fun acc kv => dput acc kv.1 kv.2) r) (mx.foldl (fun acc kv => putK acc kv.1 kv.2) s)
  | _, _, _, _, .nil, d => d
  | _, _, _, _, .cons a b, d => by
    rw [List.foldl_cons, List.foldl_cons]
    exact DR.fold b (d.put a)
end
/-! ### enumerate of a tuple -/
theorem enumNew_tup (t : Addr) (xs : Array Value) (k : Nat) (dd : Option Addr) (ss : Array (Option Value)) :
    Meets (Builtin.«enumerate.__new__» ⟨[.type "enumerate", .ref t], []⟩) (fun _ R s0 => s0.heap.get? t = some { cls := .type "tuple", dict := dd, data := .seq xs k, slots := ss } ∧
      R (.ok (.ret (.ref (s0.heap.push { cls := .type "tuple_iterator", data := .fields #[.ref t, .int 0 0] }).objs.size)))
        { s0 with heap := (s0.heap.push { cls := .type "tuple_iterator", data := .fields #[.ref t, .int 0 0] }).push { cls := .type "enumerate", data := .fields #[.none, .bool false, .ref s0.heap.objs.size, rawInt 0, .none, .none] } }) :=
  .of_wp fun prog w A R s0 z => by
    obtain ⟨hp, g, d, tk, os⟩ := s0; obtain ⟨ht, z⟩ := z
    have sub0 := sub_enumerate
    have hT : Heap.IsTuple (Shared.heap ⟨hp, g, d, tk, os⟩) t xs := ⟨_, ht, rfl, k, rfl⟩
    wp_walk using AutoSeq1.wpAny_loadPart' ht
    refine wpAny_stack_any fun _ => wpAny_pure ?_
    split
    · rename_i c _ _ _ _ _
      cases (c == Value.type "enumerate")
      · wp_walk using AutoSeq1.wpAny_loadPart' ht, wpAny_pyIter_tuple hT
        exact ⟨_, rfl, z⟩
      · wp_walk using AutoSeq1.wpAny_loadPart' ht, wpAny_pyIter_tuple hT
        exact ⟨_, rfl, z⟩
    · wp_walk using AutoSeq1.wpAny_loadPart' ht, wpAny_pyIter_tuple hT
      exact ⟨_, rfl, z⟩
section
variable {prog : Program} {w : World} {A : Around} {E : Value → Shared → Prop} {s : Shared}
theorem call_enum_tup {t : Addr} {xs : Array Value} {Q : Value → Shared → Prop} (hT : s.heap.IsTuple t xs)
    (z : ∀ h', IsEnum h' (s.heap.objs.size + 1) s.heap.objs.size 0 .none → h'.IsTupleIter s.heap.objs.size t 0 → h'.objs.size = s.heap.objs.size + 2 →
      (∀ b o, s.heap.get? b = some o → h'.get? b = some o) → Q (.ref (s.heap.objs.size + 1)) { s with heap := h' }) :
    wpAny (model prog w) A (call (.type "enumerate") [.ref t]) Q E s := by
  obtain ⟨⟨c0, dd, dt, ss⟩, ht, hc, k, hd⟩ := hT
  replace hc : c0 = .type "tuple" := hc
  replace hd : dt = .seq xs k := hd
  subst hc hd
  refine callType_new F.called_enumerate (by decide) (F.typeCall_enumerate_1 _) (F.newCall_enumerate_1 _) (fun ob => F.args_object_init_2 ob _) F.entry_enumerate_new (enumNew_tup t xs k dd ss) ⟨ht, ?_⟩
  generalize e1 : s.heap.push { cls := .type "tuple_iterator", data := .fields #[.ref t, .int 0 0] } = h1
  have z1 : h1.objs.size = s.heap.objs.size + 1 := by rw [← e1]; exact Heap.size_push ..
  show _ ∧ _
  rw [z1]
  have g1 : h1.get? s.heap.objs.size = some { cls := .type "tuple_iterator", data := .fields #[.ref t, .int 0 0] } := by rw [← e1]; exact Heap.get?_push_size _ rfl
  have g2 : ∀ b o, s.heap.get? b = some o → h1.get? b = some o := fun b o q => by rw [← e1]; exact Heap.get?_push_of_some _ q
  have g3 : IsEnum (h1.push { cls := .type "enumerate", data := .fields #[.none, .bool false, .ref s.heap.objs.size, rawInt 0, .none, .none] }) (s.heap.objs.size + 1) s.heap.objs.size 0 .none := by
    have q := Heap.get?_push_size h1 (o := { cls := .type "enumerate", data := .fields #[.none, .bool false, .ref s.heap.objs.size, rawInt 0, .none, .none] }) rfl
    rw [z1] at q
    exact q
  exact ⟨⟨_, g3, rfl⟩, z _ g3 ⟨_, Heap.get?_push_of_some _ g1, rfl, rfl⟩ (by rw [Heap.size_push, z1]) fun b o q => Heap.get?_push_of_some _ (g2 b o q)⟩
theorem next_enum_tup_end {e it t : Addr} {i : Nat} {xs : Array Value} {old : Value} {Q : Option Value → Shared → Prop} (hh : A.handled = none)
    (he : IsEnum s.heap e it i old) (hit : s.heap.IsTupleIter it t i) (hT : s.heap.IsTuple t xs) (hx : xs[i]? = none)
    (z : ∀ h', Heap.ExtBut it s.heap h' → Q none { s with heap := h' }) : wpAny (model prog w) A (pyNext (.ref e)) Q E s := by
  have ty : s.TypeIs (.ref e) "enumerate" := ⟨_, he, rfl⟩
  unfold pyNext
  refine wpAny_bind (wpAny_attempt (wpAny_callSpecial?_slot (name := Str.ofString "__next__") ty F.slot_enumerate_next (wpAny_call_entry F.slot_enumerate_next ty F.entry_enumerate_next ?_ (F.args_enumerate_next_1 _))))
  show wpAny _ _ (field (.ref e) 2 >>= _) _ _ _
  refine wpAny_bind (wpAny_field he rfl (x := .ref it) rfl (wpAny_bind (wpAny_nextOf_tuple_end hh hit hT hx fun h' x k1 k2 => ?_)))
  obtain ⟨o, k3, k4⟩ := k2
  exact wpAny_bind (wpAny_isInstance (T := "StopIteration") (b := true) ⟨o, k3, k4⟩ isSubtype_stop (wpAny_pure (z _ k1)))
end
/-- the tuple at a, each item in a new pair -/
def IteT (K : PySem.W.Frag) (a : Addr) : It :=
  ⟨fun i H => ∃ (xs : List V) (x : V), SqT K H a xs ∧ xs[i]? = some x, fun i H v H' => ∃ T x, v = .ref T ∧ H T = none ∧ H' = upd H T (.tup [.int (i : Nat), x]) ∧ ∀ xs, SqT K H a xs → xs[i]? = some x, fun i H => ∃ xs : List V, SqT K H a xs ∧ xs.length ≤ i⟩
theorem turn_enumT {P : Program} {w : World} {K : PySem.W.Frag} {elts : List Expr} {kk : Nat} {tpos : Pos} (a e it : Addr) :
    Turn P w K (.Tuple elts kk tpos) (IteT K a) [e, it] e (fun i h => (∃ old, IsEnum h e it ((i : Nat) : Int) old) ∧ h.IsTupleIter it a i ∧ e ≠ it) where
  mem := by simp
  obj := fun i h st b hb => by
    obtain ⟨⟨old, k1⟩, ⟨o, ho, hc, hd⟩, _⟩ := st
    rcases (by simpa using hb : b = e ∨ b = it) with z | z
    · rw [z]; exact ⟨_, k1, fun v q => nomatch q⟩
    · rw [z]; exact ⟨o, ho, fun v q => by rw [hd] at q; cases q⟩
  keep := fun i h h' st k => let ⟨⟨old, k1⟩, k2, k3⟩ := st; ⟨⟨old, k e (by simp) _ k1⟩, k2.at fun o q => k it (by simp) o q, k3⟩
  item := by
    intro X hP hw hK hc i pins s σ H E I hf st hg
    subst hP hw hK
    obtain ⟨⟨old, k1⟩, k2, k3⟩ := st
    obtain ⟨xs, x, hq, hx⟩ := hg
    obtain ⟨its, rv, p, hz⟩ := I.tuple hq
    have pT : s.heap.IsTuple a its.toArray := p
    obtain ⟨u, hu, ru⟩ := rv.get hx
    have ei : e < s.heap.objs.size := Heap.lt_size k1
    have ii : it < s.heap.objs.size := by obtain ⟨_, q, _⟩ := k2; exact Heap.lt_size q
    have na : a ≠ it := fun q => by
      subst q
      obtain ⟨o1, q1, q2, _⟩ := pT
      obtain ⟨o2, q3, q4, _⟩ := k2
      rw [q1] at q3
      cases q3
      rw [q2] at q4
      exact absurd q4 (by simp)
    have ea : e ∉ [it, a] := fun q => by
      rcases (by simpa using q : e = it ∨ e = a) with q | q
      · exact k3 q
      · subst q
        obtain ⟨o1, q1, q2, _⟩ := pT
        have k1' := k1
        unfold IsEnum at k1'
        rw [q1] at k1'
        cases k1'
        exact absurd q2 (by simp)
    have ha : X.A.in1.handled = none := I.ok.hd hc
    have il : i < its.toArray.size := by
      have := (List.getElem?_eq_some_iff.mp hu).1
      simpa using this
    refine wpAny_pyNext_enum_itemD (Draws.tuple ha it a na its.toArray) k1 ⟨k2, pT⟩ il k3 ea fun y h' tk hP ho hs hT hsz hk => ?_
    have yu : y = u := by
      have hP2 : its[i]? = some y := by simpa using hP
      rw [hu] at hP2
      exact (Option.some.inj hP2).symm
    subst yu
    refine ⟨_, rfl, wpAny_letOwnedTupleGo_enum (s := { s with heap := h', toks := tk + 1 }) ho fun h'' he' sb => ?_⟩
    have hT2 : h''.get? s.heap.objs.size = some { cls := .type "tuple", data := .seq #[.int i tk, y] } := (sb.2 _ (Nat.ne_of_gt ei)).trans hT
    have new : ObjOk X.prog X.w (upd H s.heap.objs.size (.tup [.int (i : Nat), x])) h'' s.heap.objs.size (.tup [.int (i : Nat), x]) := ⟨by show 2 ≤ sizeLine; decide, [.int i tk, y], .cons ⟨_, rfl⟩ (.cons ru .nil), ⟨_, hT2, rfl, _, rfl⟩⟩
    have I1 : Inv X pins σ (upd H s.heap.objs.size (.tup [.int (i : Nat), x])) { s with heap := h'', toks := tk + 1 } :=
      I.turnedNew (ch := [e, it]) (fun b ob hb q => (sb.2 b (fun z => hb (by simp [z]))).trans (hk b ob (fun z => hb (by simp [z])) (fun z => hb (by simp [z])) q)) hf (Nat.le_refl _) new
    refine ⟨.ref s.heap.objs.size, _, I1, rfl, ⟨_, x, rfl, I.hok.fresh (Nat.le_refl _), rfl, fun ys hy => by rw [I.tuple_inj hy hq]; exact hx⟩, ⟨⟨y, ?_⟩, hs.1.at fun o q => (sb.2 it (Ne.symm k3)).trans q, k3⟩, fun b hb => ?_⟩
    · rw [show ((i + 1 : Nat) : Int) = (i : Int) + 1 from by omega]
      exact he'
    · have lb : b < s.heap.objs.size := by
        rcases (by simpa using hb : b = e ∨ b = it) with z | z
        · rw [z]; exact ei
        · rw [z]; exact ii
      rw [upd_ne (Nat.ne_of_lt lb)]
      exact (hf b hb).1
  done := by
    intro X hP hw hK hc i pins s σ H E I hf st hg
    subst hP hw hK
    obtain ⟨⟨old, k1⟩, k2, k3⟩ := st
    obtain ⟨xs, hq, hx⟩ := hg
    obtain ⟨its, rv, p, hz⟩ := I.tuple hq
    obtain ⟨f0, f1, f2, f3, f4, f5⟩ := hf it (by simp)
    have hl := rv.length
    exact next_enum_tup_end (I.ok.hd hc) k1 k2 (show s.heap.IsTuple a its.toArray from p) (by simp; omega) fun h' eb => ⟨rfl, I.turned (t' := s.toks) (fun b o hb q => eb b o hb q) f0 f1 f3 f4 f5⟩
  self := fun A i s Q E st z => let ⟨⟨_, k1⟩, _⟩ := st; wpAny_pyIter_enum k1 z
def iEnumA (K : PySem.W.Frag) (ta : TA) : TI := fun σ H R => ta σ H fun vs H1 => ∃ a xs, vs = [.ref a] ∧ ((SqL K H1 a xs ∧ R (Ite K a) H1) ∨ (SqT K H1 a xs ∧ R (IteT K a) H1))
theorem pi_enumA {X : Cx} {e : Expr} {ta : TA} {p pos tpos : Pos} {elts : List Expr} {kk : Nat} (hg : Gl X "enumerate") (hm : X.mg "enumerate" = none) (ha : PA X [e] ta) (hs : starEach [e] X.env = [(false, eval e X.env)] := by rfl) :
    PI X (.Tuple elts kk tpos) (.Call (.Name "enumerate" p) [e] [] pos) (iEnumA X.K ta) := by
  refine ⟨fun pins s σ H R I z => ?_⟩
  refine Call_ (ld_blt I hg hm boot_enumerate (PyProof.Rows.callWith_type1 (thn (ha.run pos pins s σ H _ I z) fun us s1 ⟨vs, H1, I1, r1, q1⟩ => ?_) hs rfl))
  obtain ⟨a, xs, rfl, q⟩ := q1
  cases r1 with
  | cons r rr =>
    cases rr
    cases r
    have ap : ∀ b ∈ [s1.heap.objs.size + 1, s1.heap.objs.size], s1.heap.objs.size ≤ b := fun b hb => by
      rcases (by simpa using hb : b = s1.heap.objs.size + 1 ∨ b = s1.heap.objs.size) with z | z
      · rw [z]; exact Nat.le_add_right _ _
      · rw [z]; exact Nat.le_refl _
    rcases q with ⟨hq, q⟩ | ⟨hq, q⟩
    · obtain ⟨its, rv, p', hz⟩ := I1.list hq
      refine call_enumerate_list p'.isList fun h' k1 k2 k4 hk => wpAny_pyIter_enum k1 ?_
      exact ⟨s1.heap.objs.size + 1, [s1.heap.objs.size + 1, s1.heap.objs.size], _, _, H1, rfl, I1.kept (t' := s1.toks) hk, turn_enum a (s1.heap.objs.size + 1) s1.heap.objs.size, ⟨⟨.none, k1⟩, k2, Nat.succ_ne_self _⟩, fun b hb => I1.fpOk (ap b hb) (I1.hok.fresh (ap b hb)), q⟩
    · obtain ⟨its, rv, p', hz⟩ := I1.tuple hq
      refine call_enum_tup (show s1.heap.IsTuple a its.toArray from p') fun h' k1 k2 k4 hk => wpAny_pyIter_enum k1 ?_
      exact ⟨s1.heap.objs.size + 1, [s1.heap.objs.size + 1, s1.heap.objs.size], _, _, H1, rfl, I1.kept (t' := s1.toks) hk, turn_enumT a (s1.heap.objs.size + 1) s1.heap.objs.size, ⟨⟨.none, k1⟩, k2, Nat.succ_ne_self _⟩, fun b hb => I1.fpOk (ap b hb) (I1.hok.fresh (ap b hb)), q⟩
section
variable {Z : Ev} {m : List Addr} {h : Hs} {H : Hp}
theorem jr_enuT {a : Addr} {vs : List Val} {xs : List V} (hq : SqT Z.K H a xs) (rv : RVs Z.K m H vs xs) : JR Z m H (.vals (enumV 0 vs)) (IteT Z.K a) := by
  intro m' h' H' e r _ i
  have rv' := RVs.mono e _ _ rv
  refine ⟨fun w hv => ?_, fun hl => ⟨xs, e.sqT hq, by rw [← rv.len]; simpa [Src.items, enumV_len] using hl⟩⟩
  obtain ⟨v, hv, ew⟩ := enumV_get vs 0 i w hv
  obtain ⟨x, hx, rx⟩ := rv'.get hv
  refine ⟨⟨xs, x, e.sqT hq, hx⟩, fun y H'' q => ?_⟩
  obtain ⟨T, x', e1, hT, e2, q2⟩ := q
  subst e1 e2
  have := q2 xs (e.sqT hq)
  rw [hx] at this
  cases this
  have ex : Ext m' H' m' (upd H' T (.tup [.int (i : Nat), x])) := ext_new0 hT
  refine ⟨m', ex, r.lay hT, ?_⟩
  rw [ew]
  refine .tup (SqT.of upd_same) (.cons ?_ (.cons (RV.mono ex _ _ rx) .nil))
  rw [Nat.zero_add]
  exact .int _
end
end MP

set_option Elab.async false
set_option linter.all false
set_option maxRecDepth 100000
set_option maxHeartbeats 4000000
set_option autoImplicit false
/-! MPi: each form of expression, from its parts. -/
namespace MP
open PySem PySem.Spec L2
open PyProof.Rows hiding St

/-- what is wanted of an exception, from what a call's wish says -/
def exOf (Z : Ev) (E : XK) : WX := fun c vs m _ H => ∀ xs d, RVs Z.K m H vs xs → H d = none → E (.ref (xA Z.K c)) (some d) (upd H d (.xd ((xFlds c).zip xs).reverse))
/-- a def's promise, by values -/
def spF (Z : Ev) (np : Nat) (f : List Val → Hs → R Val) : Sp := fun vs H Q E => ∃ m h as, Rep Z m h H ∧ RVs Z.K m H as vs ∧ as.length = np ∧ PostG Z (exOf Z E) m H (f as h) (wV Z Q)
/-- the class c may be raised -/
structure Rsd (P : Program) (K : PySem.W.Frag) (mg : Str → Option Value) (c : Nat) : Prop where
  X : ∃ file, ExcC K file c ∧ P.main.file = file
  sup : mg "super" = none
  top : (P.main.scope.names.lookup ("super" : Str)).isSome = false
  glo : mg (xName c) = some (.ref (xA K c))
/-- the table's names mean what the module binds -/
structure Link (G : Tab) (ca : Nat → Addr) (CX : CXT) (n : Nat) (P : Program) (w : World) (K : PySem.W.Frag) (mg : Str → Option Value) (base : Heap) : Prop where
  nd : G.nm.Nodup
  free : ∀ x : Str, G.free.contains x = true → mg x = none
  glob : ∀ (i : Nat) (g : Str) (v : Val), G.globs[i]? = some (g, v) → ∃ x u, mg g = some u ∧ RelV x u ∧ (∀ m H, RV K m H v x) ∧ ∀ vs, v = .tup vs → ∃ a o, x = .ref a ∧ K.lookup a = some o ∧ o.cls = .type "tuple" ∧ o.dict = none
  fns : ∀ (f : Nat) (d : Fn), G.fns[f]? = some d → d.cls = none → ∃ fa fd, mg d.name = some (.ref fa) ∧ PySem.W.keepIn K (.ref fa) = true ∧ Binds K fd d.ps [] ∧
    FnOk P w K mg base CX (n + 2) fa fd d.ps (spF ⟨K, G.nm, ca⟩ d.ps.length (callN G n f))
  cls : ∀ (c : Nat) (d : Cl), G.cls[c]? = some d → mg d.name = some (.ref (ca c)) ∧ Cls K (ca c) ∧ (∀ (f : Nat) (g : Str), d.flds.contains f = true → G.nm[f]? = some g → NoAttr K (ca c) g) ∧
    (∀ (i : Nat), d.init = some i → ∃ fa fd di, G.fns[i]? = some di ∧ Mk K (ca c) fa ∧ Binds K fd di.ps [] ∧
      FnOk P w K mg base CX (n + 1) fa fd di.ps (spF ⟨K, G.nm, ca⟩ di.ps.length ((callsN G n).i i))) ∧
    (∀ (m i : Nat) (g : Str), d.meths.lookup m = some i → G.nm[m]? = some g → ∃ fa fd di, G.fns[i]? = some di ∧ Meth K (ca c) g fa ∧ Binds K fd di.ps [] ∧
      FnOk P w K mg base CX (n + 2) fa fd di.ps (spF ⟨K, G.nm, ca⟩ di.ps.length (callN G n i)))
  nox : ∀ outer H s e s', CX outer H s (fun _ _ _ => False) e s' → False
  exc : ∀ c, (G.excs.map (·.1)).contains c = true → Rsd P K mg c
  dct : ∀ (g : Str) (kvs : List (List Nat × Int)), (g, kvs) ∈ G.dcts → ∃ a es n, mg g = some (.ref a) ∧ KDict K w a es n ∧
    ∀ s : List Nat, (∀ i, kvs.lookup s = some i → ∃ u, PySem.W.nsIn K a (mk s) = some (some u) ∧ RelV (.int i) u) ∧ (kvs.lookup s = none → PySem.W.nsIn K a (mk s) = some none)
structure Good (G : Tab) (ca : Nat → Addr) (CX : CXT) (E : XK) (n : Nat) (k : Sc) (X : Cx) : Prop where
  N : X.N = k.N
  nd : k.N.Nodup
  sc : X.env.scope = k.sc
  fn : ∀ x, k.fnb x = true → X.fn x = true
  calm : X.calm = true
  room : Room (n + 2) X.A
  lk : Link G ca CX n X.prog X.w X.K X.mg X.base
  pas : Passes CX X E
theorem Good.hu {G : Tab} {ca : Nat → Addr} {CX : CXT} {E : XK} {n : Nat} {k : Sc} {X : Cx} (g : Good G ca CX E n k X) : X.A.units + 65 < cLine := by
  have := g.room.un
  omega
theorem call_len {G : Tab} {n f : Nat} {d : Fn} {Z : Ev} {EX : WX} {m : List Addr} {H : Hp} {vs : List Val} {h : Hs} {W : WT Val} (e : G.fns[f]? = some d) (p : PostG Z EX m H (callN G n f vs h) W) : vs.length = d.ps.length := by
  cases n with
  | zero => exact False.elim p
  | succ n =>
    rw [callN_eq e, run] at p
    split at p
    · assumption
    · exact False.elim p
theorem calli_len {G : Tab} {n f : Nat} {d : Fn} {Z : Ev} {EX : WX} {m : List Addr} {H : Hp} {vs : List Val} {h : Hs} {W : WT Val} (e : G.fns[f]? = some d) (p : PostG Z EX m H ((callsN G n).i f vs h) W) : vs.length = d.ps.length := by
  cases n with
  | zero => exact False.elim p
  | succ n => exact call_len e p

section
variable {X : Cx} {nm : List Str} {ca : Nat → Addr} {EX : WX} {C : Calls}
theorem pt_plain {e : E} {py : Expr} (hp : PE X py (tE (zz X nm ca) EX C e)) (he : ∀ whole, isTrue py X.env whole = (do let v ← whole; standAt py.pos; holding [v] (truthy v)))
    (hq : ∀ st h, et C e st h = (ev C e st h).bind fun x h => ofO (truF h x) h) : PT X py (tT (zz X nm ca) EX C e) := by
  refine pt_w (pt_truth hp he) fun σ H Q q => ?_
  obtain ⟨m, st, h, rs, p⟩ := q
  rw [hq] at p
  refine stepE rs p fun m1 H1 x v h1 e1 rs1 v1 p1 => ?_
  cases q : truF h1 v with
  | none => rw [q] at p1; exact False.elim p1
  | some k => rw [q] at p1; exact ⟨k, tru_rv rs1.rep v1 q, PostG.at_ p1 rs1.rep⟩
theorem s_var {i : Nat} {x : Str} {pos : Pos} {k : Sc} (hN : X.N = k.N) (hs : X.env.scope = k.sc) (hi : k.N[i]? = some x) (hv : visB k x = true) : PE X (.Name x pos) (tE (zz X nm ca) EX C (.var i)) := by
  simp only [visB, Bool.and_eq_true, Bool.not_eq_true'] at hv
  refine pe_w (pe_var (by rw [hN]; exact hi) ?_ hv.1.2 hv.2) fun σ H Q q => ?_
  · have := hv.1.1
    show Vis _ x
    unfold Vis
    rw [hs]
    cases q : k.sc.names.lookup x with
    | none => rw [q] at this; cases this
    | some w => rw [q] at this; cases w <;> simp_all
  · obtain ⟨m, st, h, rs, p⟩ := q
    rw [ev] at p
    unfold varF at p
    split at p
    · rename_i v e
      obtain ⟨y, z1, z2⟩ := rs.sl i v e
      exact ⟨y, z1, p.at_ rs.rep y z2⟩
    · exact False.elim p
theorem s_const {e : E} {v : Val} {x : V} {py : Expr} (hp : PE X py (tC x)) (he : ∀ st h, ev C e st h = .ok v h) (hr : ∀ m H, RV X.K m H v x) : PE X py (tE (zz X nm ca) EX C e) := by
  refine pe_w hp fun σ H Q q => ?_
  obtain ⟨m, st, h, rs, p⟩ := q
  rw [he] at p
  exact p.at_ rs.rep x (hr _ _)
theorem s_bin {op : Operator} {a b : E} {x y : Expr} {pos : Pos} (ha : PE X x (tE (zz X nm ca) EX C a)) (hb : PE X y (tE (zz X nm ca) EX C b)) : PE X (.BinOp x op y pos) (tE (zz X nm ca) EX C (.bin op a b)) := by
  refine pe_w (pe_op (op_bin (nm := nm) (ca := ca) op) ha hb) fun σ H Q q => ?_
  obtain ⟨m, st, h, rs, p⟩ := q
  rw [ev] at p
  refine stepE rs p fun m1 H1 x va h1 e1 rs1 v1 p1 => ?_
  refine stepE rs1 p1 fun m2 H2 y vb h2 e2 rs2 v2 p2 => ?_
  exact ⟨m2, h2, va, vb, rs2.rep, RV.mono e2 _ _ v1, v2, Post.end_ (pure_binF _ _ _ _) p2⟩
theorem s_neg {a : E} {x : Expr} {pos : Pos} (ha : PE X x (tE (zz X nm ca) EX C a)) : PE X (.UnaryOp .USub x pos) (tE (zz X nm ca) EX C (.neg a)) := by
  refine pe_w (pe_un un_neg ha) fun σ H Q q => ?_
  obtain ⟨m, st, h, rs, p⟩ := q
  rw [ev] at p
  refine stepE rs p fun m1 H1 x va h1 e1 rs1 v1 p1 => ?_
  cases v1 with
  | int i => exact ⟨i, rfl, PostG.at_ p1 rs1.rep _ (.int _)⟩
  | _ => exact False.elim p1
theorem s_not {a : E} {x : Expr} {pos : Pos} (ha : PE X x (tE (zz X nm ca) EX C a)) : PE X (.UnaryOp .Not x pos) (tE (zz X nm ca) EX C (.not a)) := by
  refine pe_w (pe_notT ha) fun σ H Q q => ?_
  obtain ⟨m, st, h, rs, p⟩ := q
  rw [ev] at p
  refine stepE rs p fun m1 H1 x va h1 e1 rs1 v1 p1 => ?_
  obtain ⟨k, ek, p2⟩ := PostG.ofO p1
  exact ⟨k, tru_rv rs1.rep v1 ek, PostG.at_ p2 rs1.rep _ (.bl _)⟩
theorem st_not {a : E} {x : Expr} {pos : Pos} (ha : PT X x (tT (zz X nm ca) EX C a)) : PT X (.UnaryOp .Not x pos) (tT (zz X nm ca) EX C (.not a)) := by
  refine pt_w (pt_not ha) fun σ H Q q => ?_
  obtain ⟨m, st, h, rs, p⟩ := q
  rw [et_not] at p
  exact stepT rs p fun m1 H1 b h1 e1 rs1 p1 => PostG.at_ p1 rs1.rep
theorem s_cmp (hu : X.A.units + 65 < cLine) {op : CmpOp} {a b : E} {x y : Expr} {pos : Pos} (ha : PE X x (tE (zz X nm ca) EX C a)) (hb : PE X y (tE (zz X nm ca) EX C b)) (hm : notSet y = true) :
    PE X (.Compare x [op] [y] pos) (tE (zz X nm ca) EX C (.cmp op a b)) := by
  refine pe_w (pe_cmpR (op_cmpS (nm := nm) (ca := ca) hu op) ha hb (nomark_set hm)) fun σ H Q q => ?_
  obtain ⟨m, st, h, rs, p⟩ := q
  rw [ev] at p
  refine stepE rs p fun m1 H1 x va h1 e1 rs1 v1 p1 => ?_
  refine stepE rs1 p1 fun m2 H2 y vb h2 e2 rs2 v2 p2 => ?_
  exact ⟨m2, h2, va, vb, rs2.rep, RV.mono e2 _ _ v1, v2, Post.end_ (pure_cmpF _ _ _ _) p2⟩
theorem st_cmp (hu : X.A.units + 65 < cLine) {op : CmpOp} {a b : E} {x y : Expr} {pos : Pos} (ha : PE X x (tE (zz X nm ca) EX C a)) (hb : PE X y (tE (zz X nm ca) EX C b)) (hm : notSet y = true) :
    PT X (.Compare x [op] [y] pos) (tT (zz X nm ca) EX C (.cmp op a b)) := by
  refine pt_w (pt_cmpR (op_cmpS (nm := nm) (ca := ca) hu op) ha hb (nomark_set hm)) fun σ H Q q => ?_
  obtain ⟨m, st, h, rs, p⟩ := q
  rw [et_cmp] at p
  refine stepE rs p fun m1 H1 x va h1 e1 rs1 v1 p1 => ?_
  refine stepE rs1 p1 fun m2 H2 y vb h2 e2 rs2 v2 p2 => ?_
  refine ⟨m2, h2, va, vb, rs2.rep, RV.mono e2 _ _ v1, v2, Post.seq (pure_cmpF _ _ _ _) p2 fun m3 H3 z vz h3 _ e3 r3 v3 p3 => ?_⟩
  cases v3 with
  | bl k => exact ⟨k, rfl, PostG.at_ p3 r3⟩
  | _ => exact False.elim p3
theorem s_chain (hu : X.A.units + 65 < cLine) {op op2 : CmpOp} {a b c : E} {x y z : Expr} {pos : Pos} (ha : PE X x (tE (zz X nm ca) EX C a)) (hb : PE X y (tE (zz X nm ca) EX C b)) (hc : PE X z (tE (zz X nm ca) EX C c)) (hm : notSet z = true) :
    PE X (.Compare x [op, op2] [y, z] pos) (tE (zz X nm ca) EX C (.chain op op2 a b c)) := by
  refine pe_w (pe_chain (op_cmpS (nm := nm) (ca := ca) hu op) (op_cmpS (nm := nm) (ca := ca) hu op2) ha hb hc (lastm hm)) fun σ H Q q => ?_
  obtain ⟨m, st, h, rs, p⟩ := q
  rw [ev] at p
  refine stepE rs p fun m1 H1 x va h1 e1 rs1 v1 p1 => ?_
  refine stepE rs1 p1 fun m2 H2 y vb h2 e2 rs2 v2 p2 => ?_
  refine ⟨m2, h2, va, vb, rs2.rep, RV.mono e2 _ _ v1, v2, Post.seq (pure_cmpF _ _ _ _) p2 fun m3 H3 z vz h3 _ e3 r3 v3 p3 => ?_⟩
  cases v3 with
  | bl k =>
    refine ⟨k, rfl, ?_⟩
    cases k with
    | true =>
      rw [if_pos rfl]
      refine stepE (rs2.mono e3 r3) p3 fun m4 H4 w vw h4 e4 rs4 v4 p4 => ?_
      exact ⟨m4, h4, vb, vw, rs4.rep, RV.mono e4 _ _ (RV.mono e3 _ _ v2), v4, Post.end_ (pure_cmpF _ _ _ _) p4⟩
    | false =>
      rw [if_neg Bool.false_ne_true]
      exact PostG.at_ p3 r3 _ (.bl _)
  | _ => exact False.elim p3
theorem st_chain (hu : X.A.units + 65 < cLine) {op op2 : CmpOp} {a b c : E} {x y z : Expr} {pos : Pos} (ha : PE X x (tE (zz X nm ca) EX C a)) (hb : PE X y (tE (zz X nm ca) EX C b)) (hc : PE X z (tE (zz X nm ca) EX C c)) (hm : notSet z = true) :
    PT X (.Compare x [op, op2] [y, z] pos) (tT (zz X nm ca) EX C (.chain op op2 a b c)) := by
  refine pt_w (pt_chain (op_cmpS (nm := nm) (ca := ca) hu op) (op_cmpS (nm := nm) (ca := ca) hu op2) ha hb hc (lastm hm)) fun σ H Q q => ?_
  obtain ⟨m, st, h, rs, p⟩ := q
  rw [et_chain] at p
  refine stepE rs p fun m1 H1 x va h1 e1 rs1 v1 p1 => ?_
  refine stepE rs1 p1 fun m2 H2 y vb h2 e2 rs2 v2 p2 => ?_
  refine ⟨m2, h2, va, vb, rs2.rep, RV.mono e2 _ _ v1, v2, Post.seq (pure_cmpF _ _ _ _) p2 fun m3 H3 z vz h3 _ e3 r3 v3 p3 => ?_⟩
  cases v3 with
  | bl k =>
    refine ⟨k, rfl, ?_⟩
    cases k with
    | true =>
      rw [if_pos rfl]
      refine stepE (rs2.mono e3 r3) p3 fun m4 H4 w vw h4 e4 rs4 v4 p4 => ?_
      refine ⟨m4, h4, vb, vw, rs4.rep, RV.mono e4 _ _ (RV.mono e3 _ _ v2), v4, Post.seq (pure_cmpF _ _ _ _) p4 fun m5 H5 z5 vz5 h5 _ e5 r5 v5 p5 => ?_⟩
      cases v5 with
      | bl k => exact ⟨k, rfl, PostG.at_ p5 r5⟩
      | _ => exact False.elim p5
    | false =>
      rw [if_neg Bool.false_ne_true]
      exact ⟨false, rfl, PostG.at_ p3 r3⟩
  | _ => exact False.elim p3
/-- a op1 b op2 c op3 d -/
def tChain3 (r r' r'' : R2) (ta tb tc td : TE) : TE := fun σ H Q => ta σ H fun x H1 => tb σ H1 fun y H2 => r x y H2 fun z H3 => ∃ k, z = .bl k ∧
  (if k = true then tc σ H3 fun w H4 => r' y w H4 fun z2 H5 => ∃ k2, z2 = .bl k2 ∧ (if k2 = true then td σ H5 fun u H6 => r'' w u H6 Q else Q (.bl false) H5) else Q (.bl false) H3)
theorem pe_chain3 {X : Cx} {a b c d : Expr} {ta tb tc td : TE} {pos : Pos} {op op' op'' : CmpOp} {r r' r'' : R2} (ho : OpR X (compareOp op) r) (ho' : OpR X (compareOp op') r') (ho'' : OpR X (compareOp op'') r'') (ha : PE X a ta) (hb : PE X b tb) (hc : PE X c tc) (hd : PE X d td)
    (hm : lastMarks [op, op', op''] [b, c, d] = false) : PE X (.Compare a [op, op', op''] [b, c, d] pos) (tChain3 r r' r'' ta tb tc td) := by
  refine ⟨fun pins s σ H Q I h => ?_⟩
  refine Compare_chain (thn (ha.run pins s σ H _ I h) fun v s1 ⟨x, H1, I1, r1, q1⟩ => chain_link (thn (hb.run pins s1 σ H1 _ I1 q1) fun u s2 ⟨y, H2, I2, r2, q2⟩ =>
    thn (ho pins s2 σ H2 x y v u _ I2 r1 r2 q2) fun d s3 ⟨z, H3, I3, r3, k, e, q3⟩ => ?_)) hm
  subst e
  cases r3
  refine wpAny_truthy_bool ?_
  cases k with
  | false => exact ite_ff ⟨.bl false, H3, I3, rfl, q3⟩
  | true =>
    refine ite_tt (chain_link (thn (hc.run pins s3 σ H3 _ I3 q3) fun w' s4 ⟨z', H4, I4, r4, q4⟩ => thn (ho' pins s4 σ H4 y z' u w' _ I4 r2 r4 q4) fun d s5 ⟨z2, H5, I5, r5, k2, e2, q5⟩ => ?_))
    subst e2
    cases r5
    refine wpAny_truthy_bool ?_
    cases k2 with
    | false => exact ite_ff ⟨.bl false, H5, I5, rfl, q5⟩
    | true => exact ite_tt (chain_last (thn (hd.run pins s5 σ H5 _ I5 q5) fun w2 s6 ⟨z3, H6, I6, r6, q6⟩ => ho'' pins s6 σ H6 z' z3 w' w2 Q I6 r4 r6 q6))
theorem pt_chain3 {X : Cx} {a b c d : Expr} {ta tb tc td : TE} {pos : Pos} {op op' op'' : CmpOp} {r r' r'' : R2} (ho : OpR X (compareOp op) r) (ho' : OpR X (compareOp op') r') (ho'' : OpR X (compareOp op'') r'') (ha : PE X a ta) (hb : PE X b tb) (hc : PE X c tc) (hd : PE X d td)
    (hm : lastMarks [op, op', op''] [b, c, d] = false) : PT X (.Compare a [op, op', op''] [b, c, d] pos) (tTest (tChain3 r r' r'' ta tb tc td)) := by
  refine ⟨fun pins s σ H Q I h => ?_⟩
  refine isTrue_chain (thn (ha.run pins s σ H _ I h) fun v s1 ⟨x, H1, I1, r1, q1⟩ => test_link (thn (hb.run pins s1 σ H1 _ I1 q1) fun u s2 ⟨y, H2, I2, r2, q2⟩ =>
    thn (ho pins s2 σ H2 x y v u _ I2 r1 r2 q2) fun d s3 ⟨z, H3, I3, r3, k, e, q3⟩ => ?_)) hm
  subst e
  cases r3
  refine wpAny_truthy_bool ?_
  cases k with
  | false =>
    obtain ⟨k', e', q'⟩ := q3
    cases e'
    exact ite_ff ⟨H3, I3, q'⟩
  | true =>
    refine ite_tt (test_link (thn (hc.run pins s3 σ H3 _ I3 q3) fun w' s4 ⟨z', H4, I4, r4, q4⟩ => thn (ho' pins s4 σ H4 y z' u w' _ I4 r2 r4 q4) fun d s5 ⟨z2, H5, I5, r5, k2, e2, q5⟩ => ?_))
    subst e2
    cases r5
    refine wpAny_truthy_bool ?_
    cases k2 with
    | false =>
      obtain ⟨k', e', q'⟩ := q5
      cases e'
      exact ite_ff ⟨H5, I5, q'⟩
    | true =>
      refine ite_tt (test_last (thn (hd.run pins s5 σ H5 _ I5 q5) fun w2 s6 ⟨z3, H6, I6, r6, q6⟩ => thn (ho'' pins s6 σ H6 z' z3 w' w2 _ I6 r4 r6 q6) fun d' s7 ⟨z4, H7, I7, r7, k4, e4, q7⟩ => ?_))
      subst e4
      cases r7
      exact wpAny_truthy_bool ⟨H7, I7, q7⟩
theorem s_chain3 (hu : X.A.units + 65 < cLine) {op op2 op3 : CmpOp} {a b c d : E} {x y z w : Expr} {pos : Pos} (ha : PE X x (tE (zz X nm ca) EX C a)) (hb : PE X y (tE (zz X nm ca) EX C b)) (hc : PE X z (tE (zz X nm ca) EX C c)) (hd : PE X w (tE (zz X nm ca) EX C d)) (hm : notSet w = true) :
    PE X (.Compare x [op, op2, op3] [y, z, w] pos) (tE (zz X nm ca) EX C (.chain3 op op2 op3 a b c d)) := by
  refine pe_w (pe_chain3 (op_cmpS (nm := nm) (ca := ca) hu op) (op_cmpS (nm := nm) (ca := ca) hu op2) (op_cmpS (nm := nm) (ca := ca) hu op3) ha hb hc hd (nomark_set hm)) fun σ H Q q => ?_
  obtain ⟨m, st, h, rs, p⟩ := q
  rw [ev] at p
  refine stepE rs p fun m1 H1 x va h1 e1 rs1 v1 p1 => ?_
  refine stepE rs1 p1 fun m2 H2 y vb h2 e2 rs2 v2 p2 => ?_
  refine ⟨m2, h2, va, vb, rs2.rep, RV.mono e2 _ _ v1, v2, Post.seq (pure_cmpF _ _ _ _) p2 fun m3 H3 z vz h3 _ e3 r3 v3 p3 => ?_⟩
  cases v3 with
  | bl k =>
    refine ⟨k, rfl, ?_⟩
    cases k with
    | true =>
      rw [if_pos rfl]
      refine stepE (rs2.mono e3 r3) p3 fun m4 H4 w vw h4 e4 rs4 v4 p4 => ?_
      refine ⟨m4, h4, vb, vw, rs4.rep, RV.mono e4 _ _ (RV.mono e3 _ _ v2), v4, Post.seq (pure_cmpF _ _ _ _) p4 fun m5 H5 z vz h5 _ e5 r5 v5 p5 => ?_⟩
      cases v5 with
      | bl k =>
        refine ⟨k, rfl, ?_⟩
        cases k with
        | true =>
          rw [if_pos rfl]
          refine stepE (rs4.mono e5 r5) p5 fun m6 H6 u vu h6 e6 rs6 v6 p6 => ?_
          exact ⟨m6, h6, vw, vu, rs6.rep, RV.mono e6 _ _ (RV.mono e5 _ _ v4), v6, Post.end_ (pure_cmpF _ _ _ _) p6⟩
        | false =>
          rw [if_neg Bool.false_ne_true]
          exact PostG.at_ p5 r5 _ (.bl _)
      | _ => exact False.elim p5
    | false =>
      rw [if_neg Bool.false_ne_true]
      exact PostG.at_ p3 r3 _ (.bl _)
  | _ => exact False.elim p3
theorem st_chain3 (hu : X.A.units + 65 < cLine) {op op2 op3 : CmpOp} {a b c d : E} {x y z w : Expr} {pos : Pos} (ha : PE X x (tE (zz X nm ca) EX C a)) (hb : PE X y (tE (zz X nm ca) EX C b)) (hc : PE X z (tE (zz X nm ca) EX C c)) (hd : PE X w (tE (zz X nm ca) EX C d)) (hm : notSet w = true) :
    PT X (.Compare x [op, op2, op3] [y, z, w] pos) (tT (zz X nm ca) EX C (.chain3 op op2 op3 a b c d)) := by
  refine pt_w (pt_chain3 (op_cmpS (nm := nm) (ca := ca) hu op) (op_cmpS (nm := nm) (ca := ca) hu op2) (op_cmpS (nm := nm) (ca := ca) hu op3) ha hb hc hd (nomark_set hm)) fun σ H Q q => ?_
  obtain ⟨m, st, h, rs, p⟩ := q
  rw [et_chain3] at p
  refine stepE rs p fun m1 H1 x va h1 e1 rs1 v1 p1 => ?_
  refine stepE rs1 p1 fun m2 H2 y vb h2 e2 rs2 v2 p2 => ?_
  refine ⟨m2, h2, va, vb, rs2.rep, RV.mono e2 _ _ v1, v2, Post.seq (pure_cmpF _ _ _ _) p2 fun m3 H3 z vz h3 _ e3 r3 v3 p3 => ?_⟩
  cases v3 with
  | bl k =>
    refine ⟨k, rfl, ?_⟩
    cases k with
    | true =>
      rw [if_pos rfl]
      refine stepE (rs2.mono e3 r3) p3 fun m4 H4 w vw h4 e4 rs4 v4 p4 => ?_
      refine ⟨m4, h4, vb, vw, rs4.rep, RV.mono e4 _ _ (RV.mono e3 _ _ v2), v4, Post.seq (pure_cmpF _ _ _ _) p4 fun m5 H5 z vz h5 _ e5 r5 v5 p5 => ?_⟩
      cases v5 with
      | bl k =>
        refine ⟨k, rfl, ?_⟩
        cases k with
        | true =>
          rw [if_pos rfl]
          refine stepE (rs4.mono e5 r5) p5 fun m6 H6 u vu h6 e6 rs6 v6 p6 => ?_
          refine ⟨m6, h6, vw, vu, rs6.rep, RV.mono e6 _ _ (RV.mono e5 _ _ v4), v6, Post.seq (pure_cmpF _ _ _ _) p6 fun m7 H7 z vz h7 _ e7 r7 v7 p7 => ?_⟩
          cases v7 with
          | bl k => exact ⟨k, rfl, PostG.at_ p7 r7⟩
          | _ => exact False.elim p7
        | false =>
          rw [if_neg Bool.false_ne_true]
          exact ⟨false, rfl, PostG.at_ p5 r5⟩
      | _ => exact False.elim p5
    | false =>
      rw [if_neg Bool.false_ne_true]
      exact ⟨false, rfl, PostG.at_ p3 r3⟩
  | _ => exact False.elim p3
theorem s_and {a b : E} {x y : Expr} {r : List Expr} {pos : Pos} (ha : PE X x (tE (zz X nm ca) EX C a)) (hb : PE X (.BoolOp .And (y :: r) pos) (tE (zz X nm ca) EX C b)) : PE X (.BoolOp .And (x :: y :: r) pos) (tE (zz X nm ca) EX C (.and a b)) := by
  refine pe_w (pe_andT ha hb) fun σ H Q q => ?_
  obtain ⟨m, st, h, rs, p⟩ := q
  rw [ev] at p
  refine stepE rs p fun m1 H1 x va h1 e1 rs1 v1 p1 => ?_
  obtain ⟨k, ek, p2⟩ := PostG.ofO p1
  refine ⟨k, tru_rv rs1.rep v1 ek, ?_⟩
  cases k with
  | true => rw [if_pos rfl]; exact ⟨m1, st, h1, rs1, p2⟩
  | false => rw [if_neg Bool.false_ne_true]; exact p2.at_ rs1.rep _ v1
theorem s_or {a b : E} {x y : Expr} {r : List Expr} {pos : Pos} (ha : PE X x (tE (zz X nm ca) EX C a)) (hb : PE X (.BoolOp .Or (y :: r) pos) (tE (zz X nm ca) EX C b)) : PE X (.BoolOp .Or (x :: y :: r) pos) (tE (zz X nm ca) EX C (.or a b)) := by
  refine pe_w (pe_orT ha hb) fun σ H Q q => ?_
  obtain ⟨m, st, h, rs, p⟩ := q
  rw [ev] at p
  refine stepE rs p fun m1 H1 x va h1 e1 rs1 v1 p1 => ?_
  obtain ⟨k, ek, p2⟩ := PostG.ofO p1
  refine ⟨k, tru_rv rs1.rep v1 ek, ?_⟩
  cases k with
  | true => rw [if_pos rfl]; exact p2.at_ rs1.rep _ v1
  | false => rw [if_neg Bool.false_ne_true]; exact ⟨m1, st, h1, rs1, p2⟩
theorem st_and {a b : E} {x y : Expr} {r : List Expr} {pos : Pos} (ha : PT X x (tT (zz X nm ca) EX C a)) (hb : PW X (.BoolOp .And (y :: r) pos) (tT (zz X nm ca) EX C b)) : PW X (.BoolOp .And (x :: y :: r) pos) (tT (zz X nm ca) EX C (.and a b)) := by
  refine pw_w (pw_and ha hb) fun σ H Q q => ?_
  obtain ⟨m, st, h, rs, p⟩ := q
  rw [et_and] at p
  refine stepT rs p fun m1 H1 k h1 e1 rs1 p1 => ?_
  cases k with
  | true => rw [if_pos rfl]; exact ⟨m1, st, h1, rs1, p1⟩
  | false => rw [if_neg Bool.false_ne_true]; exact p1.at_ rs1.rep
theorem st_or {a b : E} {x y : Expr} {r : List Expr} {pos : Pos} (ha : PT X x (tT (zz X nm ca) EX C a)) (hb : PW X (.BoolOp .Or (y :: r) pos) (tT (zz X nm ca) EX C b)) : PW X (.BoolOp .Or (x :: y :: r) pos) (tT (zz X nm ca) EX C (.or a b)) := by
  refine pw_w (pw_or ha hb) fun σ H Q q => ?_
  obtain ⟨m, st, h, rs, p⟩ := q
  rw [et_or] at p
  refine stepT rs p fun m1 H1 k h1 e1 rs1 p1 => ?_
  cases k with
  | true => rw [if_pos rfl]; exact p1.at_ rs1.rep
  | false => rw [if_neg Bool.false_ne_true]; exact ⟨m1, st, h1, rs1, p1⟩
theorem s_ife {c a b : E} {z x y : Expr} {pos : Pos} (hc : PT X z (tT (zz X nm ca) EX C c)) (ha : PE X x (tE (zz X nm ca) EX C a)) (hb : PE X y (tE (zz X nm ca) EX C b)) : PE X (.IfExp z x y pos) (tE (zz X nm ca) EX C (.ife c a b)) := by
  refine pe_w (pe_ifExp hc ha hb) fun σ H Q q => ?_
  obtain ⟨m, st, h, rs, p⟩ := q
  rw [ev_ife] at p
  refine stepT rs p fun m1 H1 k h1 e1 rs1 p1 => ?_
  cases k with
  | true => rw [if_pos rfl]; exact ⟨m1, st, h1, rs1, p1⟩
  | false => rw [if_neg Bool.false_ne_true]; exact ⟨m1, st, h1, rs1, p1⟩
theorem st_ife {c a b : E} {z x y : Expr} {pos : Pos} (hc : PT X z (tT (zz X nm ca) EX C c)) (ha : PT X x (tT (zz X nm ca) EX C a)) (hb : PT X y (tT (zz X nm ca) EX C b)) : PT X (.IfExp z x y pos) (tT (zz X nm ca) EX C (.ife c a b)) := by
  refine pt_w (pt_ife hc ha hb) fun σ H Q q => ?_
  obtain ⟨m, st, h, rs, p⟩ := q
  rw [et_ife] at p
  refine stepT rs p fun m1 H1 k h1 e1 rs1 p1 => ?_
  cases k with
  | true => rw [if_pos rfl]; exact ⟨m1, st, h1, rs1, p1⟩
  | false => rw [if_neg Bool.false_ne_true]; exact ⟨m1, st, h1, rs1, p1⟩
/-! lists of expressions -/
theorem s_nil : PA X [] (tEs (zz X nm ca) EX C .nil) := by
  refine pa_w pa_nil fun σ H Q q => ?_
  obtain ⟨m, st, h, rs, p⟩ := q
  rw [evs] at p
  exact p.at_ rs.rep [] .nil
theorem s_cons {a : E} {es : Es} {x : Expr} {r : List Expr} (ha : PE X x (tE (zz X nm ca) EX C a)) (hr : PA X r (tEs (zz X nm ca) EX C es)) (hs : notStar x = true) : PA X (x :: r) (tEs (zz X nm ca) EX C (.cons a es)) := by
  refine pa_w (pa_cons ha hr (star_cons hs)) fun σ H Q q => ?_
  obtain ⟨m, st, h, rs, p⟩ := q
  rw [evs] at p
  refine stepE rs p fun m1 H1 x va h1 e1 rs1 v1 p1 => ?_
  refine stepEs rs1 p1 fun m2 H2 xs vs h2 e2 rs2 v2 p2 => ?_
  exact p2.at_ rs2.rep _ (.cons (RV.mono e2 _ _ v1) v2)
theorem s_tup {es : Es} {xs : List Expr} {k pos} (h : PA X xs (tEs (zz X nm ca) EX C es)) : PE X (.Tuple xs k pos) (tE (zz X nm ca) EX C (.tup es)) := by
  refine pe_w (pe_tup h) fun σ H Q q => ?_
  obtain ⟨m, st, h, rs, p⟩ := q
  rw [ev] at p
  refine stepEs rs p fun m1 H1 xs vs h1 e1 rs1 v1 p1 => ?_
  unfold tupF at p1
  split at p1
  · rename_i hl
    refine ⟨by rw [← v1.len, lim_eq]; exact hl, fun a ha => ?_⟩
    exact Post.tup (Post.end_ (pure_ok _ _) p1) rs1.rep ha v1
  · exact False.elim p1
theorem s_lst {es : Es} {xs : List Expr} {pos} (h : PA X xs (tEs (zz X nm ca) EX C es)) : PE X (.List xs pos) (tE (zz X nm ca) EX C (.lst es)) := by
  refine pe_w (pe_lst h) fun σ H Q q => ?_
  obtain ⟨m, st, h, rs, p⟩ := q
  rw [ev] at p
  refine stepEs rs p fun m1 H1 xs vs h1 e1 rs1 v1 p1 => ?_
  unfold lstF at p1
  split at p1
  · rename_i hl
    refine ⟨by rw [← v1.len, lim_eq]; exact hl, fun a ha => ?_⟩
    exact Post.lst (Post.end_ (pure_new _ _) p1) rs1.rep ha v1
  · exact False.elim p1
/-! subscripts -/
theorem s_ix (hu : X.A.units + 65 < cLine) {a b : E} {x y : Expr} {pos : Pos} (ha : PE X x (tE (zz X nm ca) EX C a)) (hb : PE X y (tE (zz X nm ca) EX C b)) (hs : notSlice y = true) : PE X (.Subscript x y pos) (tE (zz X nm ca) EX C (.ix a b)) := by
  refine pe_w (pe_ix (ix_S (nm := nm) (ca := ca) hu) ha hb (plainIx hs)) fun σ H Q q => ?_
  obtain ⟨m, st, h, rs, p⟩ := q
  rw [ev] at p
  refine stepE rs p fun m1 H1 x va h1 e1 rs1 v1 p1 => ?_
  refine stepE rs1 p1 fun m2 H2 y vb h2 e2 rs2 v2 p2 => ?_
  exact ⟨m2, h2, va, vb, rs2.rep, RV.mono e2 _ _ v1, v2, Post.end_ (pure_ixF _ _ _) p2⟩
theorem s_po_none : PO X none (tEo (zz X nm ca) EX C .none) := by
  refine po_w po_none fun σ H Q q => ?_
  obtain ⟨m, st, h, rs, p⟩ := q
  rw [evo] at p
  exact p.at_ rs.rep
theorem s_po_some {a : E} {x : Expr} (ha : PE X x (tE (zz X nm ca) EX C a)) : PO X (some x) (tEo (zz X nm ca) EX C (.some a)) := by
  refine po_w (po_some ha) fun σ H Q q => ?_
  obtain ⟨m, st, h, rs, p⟩ := q
  rw [evo] at p
  refine stepE rs p fun m1 H1 x va h1 e1 rs1 v1 p1 => ?_
  cases v1 with
  | int i => exact ⟨i, rfl, PostG.at_ p1 rs1.rep⟩
  | _ => exact False.elim p1
theorem s_sl {a : E} {lo hi : Eo} {x : Expr} {l u : Option Expr} {pos p2 : Pos} (ha : PE X x (tE (zz X nm ca) EX C a)) (hl : PO X l (tEo (zz X nm ca) EX C lo)) (hu : PO X u (tEo (zz X nm ca) EX C hi)) : PE X (.Subscript x (.Slice l u none p2) pos) (tE (zz X nm ca) EX C (.sl a lo hi)) := by
  refine pe_w (pe_slice (sl_S (nm := nm) (ca := ca)) ha hl hu) fun σ H Q q => ?_
  obtain ⟨m, st, h, rs, p⟩ := q
  rw [ev] at p
  refine stepE rs p fun m1 H1 x va h1 e1 rs1 v1 p1 => ?_
  refine stepEo rs1 p1 fun m2 H2 l h2 e2 rs2 p2 => ?_
  refine stepEo rs2 p2 fun m3 H3 u h3 e3 rs3 p3 => ?_
  exact ⟨m3, h3, va, rs3.rep, RV.mono e3 _ _ (RV.mono e2 _ _ v1), Post.end_ (pure_slF _ _ _ _) p3⟩
/-! fields -/
theorem s_fld {a : E} {f : Nat} {g : Str} {x : Expr} {pos : Pos} (hf : nm[f]? = some g) (ha : PE X x (tE (zz X nm ca) EX C a)) (hs : notSuper x = true) : PE X (.Attribute x g pos) (tE (zz X nm ca) EX C (.fld a f)) := by
  refine pe_w (pe_fld ha (abase hs)) fun σ H Q q => ?_
  obtain ⟨m, st, h, rs, p⟩ := q
  rw [ev] at p
  refine stepE rs p fun m1 H1 x va h1 e1 rs1 v1 p1 => ?_
  cases v1 with
  | @ref n a hn =>
    simp only [fldG, fldF] at p1
    split at p1
    · rename_i c fs hb
      obtain ⟨dx, fx, z1, z2, z3, z4⟩ := rs1.rep.ins hn hb
      cases q : fget fs f with
      | none => rw [q] at p1; exact False.elim p1
      | some w =>
        rw [q] at p1
        obtain ⟨y, l, ry⟩ := FR.get hf rs1.rep.nm z2 q
        have mem : ∀ {s : List (Str × V)} {y : V}, s.lookup g = some y → ∃ q ∈ s, q.1 = g := fun {s y} l => by
          induction s with
          | nil => cases l
          | cons q r ih =>
            rw [List.lookup_cons] at l
            split at l
            · rename_i e; exact ⟨q, List.mem_cons_self, (eq_of_beq e).symm⟩
            · obtain ⟨q', h1, h2⟩ := ih l; exact ⟨q', List.mem_cons_of_mem _ h1, h2⟩
        obtain ⟨q', hm, e⟩ := mem l
        have na := z4 q' hm
        rw [e] at na
        exact ⟨a, ca c, dx, fx, y, rfl, z1, z3, na, l, PostG.at_ p1 rs1.rep _ ry⟩
    · exact False.elim p1
  | _ => exact False.elim p1
end
end MP

set_option Elab.async false
set_option linter.all false
set_option maxRecDepth 100000
set_option maxHeartbeats 4000000
set_option autoImplicit false
/-! MPj: calls, displays of dicts, comprehensions. -/
namespace MP
open PySem PySem.Spec L2
open PyProof.Rows hiding St

theorem glB_gl {X : Cx} {k : Sc} {x : Str} (hs : X.env.scope = k.sc) (h : glB k x = true) : Gl X x ∧ (x == ("__debug__" : Str)) = false := by
  simp only [glB, Bool.and_eq_true, decide_eq_true_eq, Bool.not_eq_true'] at h
  refine ⟨?_, h.2⟩
  show X.env.scope.names.lookup x = _
  rw [hs]
  exact h.1
section
variable {X : Cx} {G : Tab} {ca : Nat → Addr} {CX : CXT} {EK : XK} {n : Nat} {k : Sc}
theorem s_glob {EX : WX} {C : Calls} {i : Nat} {v : Val} {x : Str} {pos : Pos} (g : Good G ca CX EK n k X) (hC : C.glob = fun k => (G.globs[k]?).map (·.2)) (hi : (G.globs[i]?).map (·.1) = some x) (hg : glB k x = true) :
    PE X (.Name x pos) (tE (zz X G.nm ca) EX C (.glob i)) := by
  cases q : G.globs[i]? with
  | none => rw [q] at hi; cases hi
  | some gv =>
    obtain ⟨y, w⟩ := gv
    rw [q] at hi
    cases hi
    obtain ⟨x', u, h1, h2, h3, _⟩ := g.lk.glob i _ _ q
    obtain ⟨g1, g2⟩ := glB_gl g.sc hg
    exact s_const (v := w) (x := x') (pe_glob g1 h1 h2 g2) (fun st h => by rw [ev, hC]; show ofO ((G.globs[i]?).map (·.2)) h = _; rw [q]; rfl) h3
theorem bi_ok {x : Str} (g : Good G ca CX EK n k X) (h : biB G k x = true) : Gl X x ∧ (x == ("__debug__" : Str)) = false ∧ X.mg x = none := by
  simp only [biB, Bool.and_eq_true] at h
  obtain ⟨h1, h2⟩ := glB_gl g.sc h.1
  exact ⟨h1, h2, g.lk.free x h.2⟩
theorem nil_es {Z : Ev} {EX : WX} {C : Calls} {σ : St} {H : Hp} {Q : List V → Hp → Prop} (h : tEs Z EX C .nil σ H Q) : tNil σ H Q := by
  obtain ⟨m, st, h, rs, p⟩ := h
  rw [evs] at p
  exact p.at_ rs.rep [] .nil
/-- f(..) -/
theorem s_call {es : Es} {f : Nat} {d : Fn} {x : Str} {p pos : Pos} {xs : List Expr} (g : Good G ca CX EK n k X) (hf : G.fns[f]? = some d) (hc : d.cls = none) (hx : d.name = x) (hg : glB k x = true)
    (ha : PA X xs (tEs (zz X G.nm ca) (exOf (zz X G.nm ca) EK) (callsN G n) es)) (hs : xs.all notStar = true) (h0 : xs = [] → es = .nil) : PE X (.Call (.Name x p) xs [] pos) (tE (zz X G.nm ca) (exOf (zz X G.nm ca) EK) (callsN G n) (.call f es)) := by
  subst hx
  obtain ⟨fa, fd, h1, h2, h3, h4⟩ := g.lk.fns f d hf hc
  obtain ⟨g1, g2⟩ := glB_gl g.sc hg
  have go : ∀ σ H Q, tE (zz X G.nm ca) (exOf (zz X G.nm ca) EK) (callsN G n) (.call f es) σ H Q → tCall (spF (zz X G.nm ca) d.ps.length (callN G n f)) [] EK (tEs (zz X G.nm ca) (exOf (zz X G.nm ca) EK) (callsN G n) es) σ H Q := fun σ H Q q => by
    obtain ⟨m, st, h, rs, p⟩ := q
    rw [ev] at p
    refine stepEs rs p fun m1 H1 xs vs h1 e1 rs1 v1 p1 => ?_
    rw [List.append_nil]
    exact ⟨m1, h1, vs, rs1.rep, v1, call_len hf p1, p1⟩
  cases xs with
  | nil =>
    obtain rfl := h0 rfl
    exact pe_w (pe_call0 h4 g.room g1 h1 h2 h3 .nil g.pas g2) fun σ H Q q => nil_es (go σ H Q q)
  | cons y ys =>
    rw [List.all_cons, Bool.and_eq_true] at hs
    exact pe_w (pe_call h4 g.room g1 h1 h2 h3 .nil g.pas ha g2 (star_cons hs.1) (star_any hs.2)) go
/-- C(..) -/
theorem s_new {es : Es} {c : Nat} {d : Cl} {x : Str} {p pos : Pos} {xs : List Expr} (g : Good G ca CX EK n k X) (hf : G.cls[c]? = some d) (hini : d.init.isSome = true) (hx : d.name = x) (hg : glB k x = true)
    (ha : PA X xs (tEs (zz X G.nm ca) (exOf (zz X G.nm ca) EK) (callsN G n) es)) (hs : xs.all notStar = true) (h0 : xs = [] → es = .nil) : PE X (.Call (.Name x p) xs [] pos) (tE (zz X G.nm ca) (exOf (zz X G.nm ca) EK) (callsN G n) (.new c es)) := by
  subst hx
  obtain ⟨h1, h2, h3, h4, h5⟩ := g.lk.cls c d hf
  obtain ⟨g1, g2⟩ := glB_gl g.sc hg
  have hi : (callsN G n).init c = d.init := by
    show (G.cls[c]?).bind (·.init) = _
    rw [hf]
    rfl
  obtain ⟨i, q⟩ := Option.isSome_iff_exists.mp hini
  obtain ⟨fa, fd, di, z1, z2, z3, F⟩ := h4 i q
  have go : ∀ σ H Q, tE (zz X G.nm ca) (exOf (zz X G.nm ca) EK) (callsN G n) (.new c es) σ H Q → tMake (ca c) (spF (zz X G.nm ca) di.ps.length ((callsN G n).i i)) [] EK (tEs (zz X G.nm ca) (exOf (zz X G.nm ca) EK) (callsN G n) es) σ H Q := fun σ H Q q2 => by
    obtain ⟨m, st, h, rs, p⟩ := q2
    rw [ev] at p
    refine stepEs rs p fun m1 H1 xs vs h1 e1 rs1 v1 p1 => ?_
    intro a dx ha hdx hne
    rw [List.append_nil]
    have hu : (upd H1 dx (.own a)) a = none := by rw [upd_ne (Ne.symm hne)]; exact ha
    have ex1 : Ext m1 H1 m1 (upd H1 dx (.own a)) := ext_new0 hdx
    have ex2 : Ext m1 (upd H1 dx (.own a)) (m1 ++ [a]) (upd (upd H1 dx (.own a)) a (.ins (ca c) dx [])) := ext_new hu
    have r1 : Rep (zz X G.nm ca) m1 h1 (upd H1 dx (.own a)) := rs1.rep.lay hdx
    have r2 : Rep (zz X G.nm ca) (m1 ++ [a]) (h1 ++ [.ins c []]) (upd (upd H1 dx (.own a)) a (.ins (ca c) dx [])) := r1.new hu ⟨dx, [], upd_same, .nil, h2, fun _ hq => by cases hq⟩
    have ea : (m1 ++ [a])[h1.length]? = some a := by rw [← rs1.rep.len]; simp
    have p2 := p1.mono (ex1.trans ex2)
    have p3 : PostG (zz X G.nm ca) (exOf (zz X G.nm ca) EK) (m1 ++ [a]) (upd (upd H1 dx (.own a)) a (.ins (ca c) dx [])) ((callsN G n).i i (.ref h1.length :: vs) (h1 ++ [.ins c []])) (wV (zz X G.nm ca) fun v H2 => v = .non ∧ Q (.ref a) H2) := by
      unfold newF at p2
      rw [hi, q] at p2
      dsimp only at p2
      cases r : (callsN G n).i i (.ref h1.length :: vs) (h1 ++ [.ins c []]) with
      | exc _ _ _ => rw [r] at p2; exact p2
      | stk => rw [r] at p2; exact p2
      | ok v h3 =>
        rw [r] at p2
        intro m' H' e r' x rv
        cases rv with
        | non => exact ⟨rfl, p2 m' H' e r' _ (.ref (e.pre _ _ ea))⟩
        | _ => exact False.elim (p2 : False)
    exact ⟨_, _, .ref h1.length :: vs, r2, .cons (.ref ea) (RVs.mono (ex1.trans ex2) _ _ v1), calli_len z1 p3, p3⟩
  cases xs with
  | nil =>
    obtain rfl := h0 rfl
    exact pe_w (pe_make0 z2 F g.room g1 h1 z3 .nil g.pas g2) fun σ H Q q => nil_es (go σ H Q q)
  | cons y ys =>
    rw [List.all_cons, Bool.and_eq_true] at hs
    exact pe_w (pe_make z2 F g.room g1 h1 z3 .nil g.pas ha g2 (star_cons hs.1) (star_any hs.2)) go
theorem few_form {env : Env} {pos : Pos} {xs : List Expr} (h : xs.all notStar = true) (hl : xs.length < 29) : methodCallForm (xs.length + ([] : List Keyword).length) (backTo pos (starEach xs env)) (backToKw pos (keywordEach [] env)) = true := few_ok h hl
/-- o.m(..) of an instance -/
theorem s_meth {o : E} {es : Es} {f : Nat} {nmf : Str} {y : Expr} {ap pos : Pos} {xs : List Expr} (g : Good G ca CX EK n k X) (hf : G.nm[f]? = some nmf) (ho : PE X y (tE (zz X G.nm ca) (exOf (zz X G.nm ca) EK) (callsN G n) o))
    (ha : PA X xs (tEs (zz X G.nm ca) (exOf (zz X G.nm ca) EK) (callsN G n) es)) (hs : xs.all notStar = true) (h0 : xs = [] → es = .nil) (hy : notSuper y = true) (hl : (ap.endLine == pos.line) = true) (hx : xs.length < 29) :
    PE X (.Call (.Attribute y nmf ap) xs [] pos) (tE (zz X G.nm ca) (exOf (zz X G.nm ca) EK) (callsN G n) (.meth o f es)) := by
  have ht : eval (.Call (.Attribute y nmf ap) xs [] pos) X.env = (do
      let ov ← eval y X.env
      standAt ap.atName
      let (f, first) ← holding [ov] (getMethod ov nmf (plainOf y X.env))
      callWith pos f first (backTo pos (starEach xs X.env)) (backToKw pos (keywordEach [] X.env))) := mcall_of (abase hy) fun ov => mcall_line (few_form hs hx) hl
  refine pe_any fun σ H Q q => ?_
  obtain ⟨m, st, h, rs, p⟩ := q
  rw [ev] at p
  -- which class
  have key : ∀ n' hh, ev (callsN G n) o st h = .ok (.ref n') hh → ∀ c fs, hh[n']? = some (.ins c fs) → ∀ i, (callsN G n).meth c f = some i → ∃ t', PE X (.Call (.Attribute y nmf ap) xs [] pos) t' ∧ t' σ H Q := fun n' hh e1 c fs e2 i e3 => by
    have e3' : (G.cls[c]?).bind (fun k => k.meths.lookup f) = some i := e3
    cases qc : G.cls[c]? with
    | none => rw [qc] at e3'; cases e3'
    | some d =>
      rw [qc] at e3'
      have e4 : d.meths.lookup f = some i := e3'
      obtain ⟨h1, h2, h3, h4, h5⟩ := g.lk.cls c d qc
      obtain ⟨fa, fd, di, z1, z2, z3, F⟩ := h5 f i nmf e4 hf
      have go : tMeth (ca c) nmf (spF (zz X G.nm ca) di.ps.length (callN G n i)) [] EK (tE (zz X G.nm ca) (exOf (zz X G.nm ca) EK) (callsN G n) o) (tEs (zz X G.nm ca) (exOf (zz X G.nm ca) EK) (callsN G n) es) σ H Q := by
        rw [e1] at p
        refine ⟨m, st, h, rs, ?_⟩
        rw [e1]
        intro m1 H1 ex1 r1 x rv
        have p1 := PostG.mono p ex1
        cases rv with
        | @ref _ a hn =>
          obtain ⟨dx, fx, w1, w2, w3, w4⟩ := r1.ins hn e2
          rw [R.bind_ok] at p1
          unfold methF at p1
          dsimp only at p1
          rw [e2] at p1
          dsimp only at p1
          rw [e3] at p1
          dsimp only at p1
          split at p1
          · rename_i hnone
            have hfg : fget fs f = none := by simpa using hnone
            refine ⟨a, dx, fx, rfl, w1, FR.none hf r1.nm w2 hfg, ?_⟩
            refine stepEs (rs.mono ex1 r1) p1 fun m2 H2 zs vs h2' e2' rs2 v2 p2 => ?_
            rw [List.append_nil]
            exact ⟨m2, h2', .ref n' :: vs, rs2.rep, .cons (.ref (e2'.pre _ _ hn)) v2, call_len z1 p2, p2⟩
          · exact False.elim p1
      cases xs with
      | nil =>
        obtain rfl := h0 rfl
        refine ⟨_, pe_meth0 (pl := plainOf y X.env) ho h2 z2 F g.room z3 .nil g.pas ht, ?_⟩
        obtain ⟨m9, st9, h9, rs9, p9⟩ := go
        refine ⟨m9, st9, h9, rs9, ?_⟩
        cases r9 : ev (callsN G n) o st9 h9 with
        | ok v1 h1' =>
          rw [r9] at p9
          intro m' H' e' r' x' rv'
          obtain ⟨a', dx', fs', y1, y2, y3, y4⟩ := p9 m' H' e' r' x' rv'
          exact ⟨a', dx', fs', y1, y2, y3, nil_es y4⟩
        | exc _ _ _ => rw [r9] at p9; exact p9
        | stk => rw [r9] at p9; exact p9
      | cons z zs =>
        rw [List.all_cons, Bool.and_eq_true] at hs
        exact ⟨_, pe_meth (pl := plainOf y X.env) ho h2 z2 F g.room z3 .nil g.pas ha (star_cons hs.1) (star_any hs.2) ht, go⟩
  cases r : ev (callsN G n) o st h with
  | stk => rw [r] at p; exact False.elim p
  | exc c0 vs0 h0' =>
    refine ⟨fun σ H Q => tE (zz X G.nm ca) (exOf (zz X G.nm ca) EK) (callsN G n) o σ H fun _ _ => False, ⟨fun pins s σ H Q I q => ?_⟩, m, st, h, rs, ?_⟩
    · rw [ht]
      refine wpAny_bind (thn (ho.run pins s σ H _ I q) fun v s1 q1 => ?_)
      obtain ⟨_, _, _, _, f⟩ := q1
      exact False.elim f
    · rw [r] at p ⊢
      exact p
  | ok v hh =>
    rw [r] at p
    have p1 := p
    rw [R.bind_ok] at p1
    cases v with
    | ref n' =>
      unfold methF at p1
      dsimp only at p1
      split at p1
      · rename_i c fs e2
        split at p1
        · rename_i i e3
          exact key n' hh r c fs e2 i e3
        · exact False.elim p1
      · exact False.elim p1
    | _ => exact False.elim p1
end
end MP

set_option Elab.async false
set_option linter.all false
set_option maxRecDepth 100000
set_option maxHeartbeats 4000000
set_option autoImplicit false
/-! MPk: built-ins, displays of dicts, what is walked, comprehensions. -/
namespace PyProof.Rows
open PySem Builtin Float
section
variable {prog : Program} {w : World} {A : Around} {E : Value → Shared → Prop} {s : Shared}
theorem field_small {a : Int} {t : Tok} {spec : Str} {f : FormatSpec} {Q : Value → Shared → Prop} (hd : a.natAbs.log2 < 1920)
    (hp : parseFormatSpec spec.cps.toList "int" 62 = .ok f)
    (hne : (spec.length == 0) = false)
    (hasc : ((spec.cps.toList.drop 1).any (· ≥ 128) || (spec.cps.getD 0 0 ≥ 128 && !([60, 62, 61, 94] : List Nat).contains (spec.cps.getD 1 0))) = false)
    (hg : intSpecGood spec f = true)
    (h : Q (.str (intSpecText f a) (s.toks + 1)) { s with toks := s.toks + 1 + 1 }) (hsz : spec.length ≤ sizeLine) (hlen : (intSpecText f a).length ≤ sizeLine) :
    wpAny (model prog w) A (formatField (.int a t) spec) Q E s := by
  unfold intSpecGood at hg
  simp only [Bool.and_eq_true] at hg
  obtain ⟨⟨⟨⟨⟨⟨hty, hpr⟩, hz⟩, hal⟩, hw⟩, hgr⟩, hsg⟩ := hg
  replace hty := beq_iff_eq.mp hty
  replace hpr := Option.isNone_iff_eq_none.mp hpr
  replace hz : f.noNeg0 = false := by simpa using hz
  replace hal : f.alt = false := by simpa using hal
  replace hw : f.width.getD 0 ≤ 100000 := by simpa using hw
  replace hgr := Option.isNone_iff_eq_none.mp hgr
  replace hsg := Option.isNone_iff_eq_none.mp hsg
  show wpAny _ _ (holding [.int a t] (pyFormat (.int a t) spec)) Q E s
  refine wpAny_holding ?_
  unfold pyFormat
  refine wpAny_bind (wpAny_mkStr ?_ hsz)
  refine wpAny_bind (m := callSpecial? (.int a t) (Str.ofString "__format__") [.str spec s.toks]) (wpAny_callSpecial?_slot (name := Str.ofString "__format__") (typeIs_int _ a t) slot_int_format ?_)
  refine wpAny_call (codeAny_call_builtin slot_int_format.plain entry_int_format (slot_int_format.check _ _ _ _ _ _ _ _ (typeIs_int _ a t) (args_int_format _ _) ?_))
  unfold Builtin.«int.__format__»
  simp only [selfAndOne, noKeywords, Int.intOfSelf, asInt?, asStr?, List.isEmpty_nil, if_true, pure_bind, bind_pure, bind_assoc, hne, hasc, Bool.false_eq_true, if_false,
    show (Value.str spec s.toks == Value.none) = false from rfl]
  refine wpAny_bind (wpAny_typeNameOf (T := "str") (typeIs_str _ _ _) (by decide) fun _ => ?_)
  first | refine wpAny_bind (wpAny_typeNameOfCut_int ?_) | refine wpAny_bind (wpAny_typeNameOf_int ?_)
  simp only [hp, hty]
  rw [if_pos (by decide)]
  show wpAny _ _ (if _ then _ else _) _ _ _
  rw [if_neg (by simp [hpr])]
  show wpAny _ _ (if _ then _ else _) _ _ _
  rw [if_neg (by simp [hz])]
  show wpAny _ _ (if _ then _ else _) _ _ _
  rw [if_neg (by decide)]
  show wpAny _ _ (do let r ← Builtin.overDigitLimit? a; _) _ _ _
  rw [overDigitLimit_small hd]
  show wpAny _ _ (if _ then _ else _) _ _ _
  have hw' : ¬ (f.width.getD 0 > 100000) := by omega
  rw [if_neg (by simpa using hw')]
  show wpAny _ _ (retStr _) _ _ _
  unfold retStr
  refine wpAny_bind (wpAny_mkStr (wpAny_pure ?_) ?hs2)
  case hs2 =>
    simp only [hal, Bool.false_eq_true, if_false, show ((10 : Nat) == 10) = true by decide, if_true]
    conv => lhs; arg 1; whnf
    simp only [intSpecText, intField', hgr, hsg, hal, Bool.false_eq_true, if_false, show ((10 : Nat) == 10) = true by decide, if_true] at hlen ⊢
    exact hlen
  dsimp only
  refine wpAny_bind (wpAny_isInstance (typeIs_str _ _ _) isSubtype_str_str (wpAny_pure ?_))
  simp only [hal, Bool.false_eq_true, if_false, show ((10 : Nat) == 10) = true by decide, if_true]
  conv => arg 1; arg 1; whnf
  simp only [intSpecText, intField', hgr, hsg, hal, Bool.false_eq_true, if_false, show ((10 : Nat) == 10) = true by decide, if_true] at h ⊢
  exact h
end
end PyProof.Rows
namespace MP
namespace FmtT
open PySem PyProof.Rows Builtin Builtin.Float
theorem numS_len {a : Int} (h : 0 ≤ a) : (numS a).length = (Nat.toDigits 10 a.natAbs).length := by
  obtain ⟨m, rfl⟩ := Int.eq_ofNat_of_zero_le h
  unfold numS
  rw [show (toString ((m : Nat) : Int)) = toString (Int.ofNat m) from rfl, text_ofNat]
  simp
theorem spec_ok : ∀ w, w < 10 → 1 ≤ w → ∃ f, parseFormatSpec (mk (specL w)).cps.toList "int" 62 = .ok f ∧ intSpecGood (mk (specL w)) f = true ∧ f.grouping = none ∧ f.sign = none ∧ f.fill = 48 ∧ f.align = 61 ∧ f.width.getD 0 = w ∧
    ((mk (specL w)).length == 0) = false ∧ (((mk (specL w)).cps.toList.drop 1).any (· ≥ 128) || ((mk (specL w)).cps.getD 0 0 ≥ 128 && !([60, 62, 61, 94] : List Nat).contains ((mk (specL w)).cps.getD 1 0))) = false := by
  intro w h h1
  have key : ∀ n, n = w → ∃ f, parseFormatSpec (mk (specL n)).cps.toList "int" 62 = .ok f ∧ intSpecGood (mk (specL n)) f = true ∧ f.grouping = none ∧ f.sign = none ∧ f.fill = 48 ∧ f.align = 61 ∧ f.width.getD 0 = n ∧
    ((mk (specL n)).length == 0) = false ∧ (((mk (specL n)).cps.toList.drop 1).any (· ≥ 128) || ((mk (specL n)).cps.getD 0 0 ≥ 128 && !([60, 62, 61, 94] : List Nat).contains ((mk (specL n)).cps.getD 1 0))) = false := by
    intro n hn
    have : n = 1 ∨ n = 2 ∨ n = 3 ∨ n = 4 ∨ n = 5 ∨ n = 6 ∨ n = 7 ∨ n = 8 ∨ n = 9 := by omega
    clear hn h h1
    rcases this with rfl | rfl | rfl | rfl | rfl | rfl | rfl | rfl | rfl <;>
      exact ⟨{ fill := 48, align := 61, width := some _, type := some 100 }, by kernel_rfl, by kernel_rfl, rfl, rfl, rfl, rfl, rfl, by kernel_rfl, by kernel_rfl⟩
  exact key w rfl
theorem digs_le {a : Int} (h : a.natAbs.log2 < 1920) : (Nat.toDigits 10 a.natAbs).length ≤ 4300 := by
  have hlt : a.natAbs < 10 ^ 4300 := by
    have h1 : a.natAbs < 2 ^ 1920 := by
      by_cases h0 : a.natAbs = 0
      · rw [h0]; exact Nat.two_pow_pos _
      · exact (Nat.log2_lt h0).mp h
    exact Nat.lt_of_lt_of_le h1 (Nat.le_trans (Nat.pow_le_pow_right (by decide) (by decide : 1920 ≤ 4300)) (Nat.pow_le_pow_left (by decide) 4300))
  have e := (Nat.length_repr_le_iff (n := a.natAbs) (by decide : 0 < 4300)).mpr hlt
  rwa [← String.length_toList, Nat.toList_repr] at e
end FmtT
open PySem PySem.Spec L2
open PyProof.Rows hiding St

theorem prim_boot (p : Prim) : bootBuiltins (primN p) = some (primV p) := by cases p <;> decide +kernel
theorem prim_name (p : Prim) : primN p ≠ "__name__" := by cases p <;> decide
section
variable {X : Cx} {G : Tab} {ca : Nat → Addr} {CX : CXT} {EK : XK} {n : Nat} {k : Sc} {EX : WX} {C : Calls}
theorem s_prim {es : Es} {p : Prim} {x : Str} {pp pos : Pos} {y : Expr} {ys : List Expr} (g : Good G ca CX EK n k X) (hx : x = primN p) (hg : biB G k x = true)
    (ha : PA X (y :: ys) (tEs (zz X G.nm ca) EX C es)) (hs : (y :: ys).all notStar = true) : PE X (.Call (.Name x pp) (y :: ys) [] pos) (tE (zz X G.nm ca) EX C (.prim p es)) := by
  obtain ⟨g1, g2, g3⟩ := bi_ok g hg
  rw [List.all_cons, Bool.and_eq_true] at hs
  have hp := prim_S (nm := G.nm) (ca := ca) g.calm p
  have go : ∀ σ H Q, tE (zz X G.nm ca) EX C (.prim p es) σ H Q → tCB (rPrim (zz X G.nm ca) p) (tEs (zz X G.nm ca) EX C es) σ H Q := fun σ H Q q => by
    obtain ⟨m, st, h, rs, p⟩ := q
    rw [ev] at p
    refine stepEs rs p fun m1 H1 xs vs h1 e1 rs1 v1 p1 => ?_
    exact ⟨m1, h1, vs, rs1.rep, v1, Post.end_ (pure_primF _ _ _) p1⟩
  have hb : bootBuiltins x = some (primV p) := by rw [hx]; exact prim_boot p
  have hn : x ≠ "__name__" := by rw [hx]; exact prim_name p
  cases p <;> first
    | exact pe_w (pe_callB hp g1 g3 hb ha hn g2 (star_cons hs.1) (star_any hs.2)) go
    | exact pe_w (pe_callTy hp g1 g3 hb ha hn g2 (star_cons hs.1) (star_any hs.2)) go
theorem s_pm {o : E} {es : Es} {p : PM} {x : Str} {ap pos : Pos} {y : Expr} {xs : List Expr} (hu : X.A.units + 65 < cLine) (hx : x = pmN p) (ho : PE X y (tE (zz X G.nm ca) EX C o))
    (ha : PA X xs (tEs (zz X G.nm ca) EX C es)) (hs : xs.all notStar = true) (h0 : xs = [] → es = .nil) (hy : notSuper y = true) (hl : (ap.endLine == pos.line) = true) (hxs : xs.length < 29) :
    PE X (.Call (.Attribute y x ap) xs [] pos) (tE (zz X G.nm ca) EX C (.pm p o es)) := by
  subst hx
  have go : ∀ σ H Q, tE (zz X G.nm ca) EX C (.pm p o es) σ H Q → tBM X.K (pmT p) (rPM (zz X G.nm ca) p) (tE (zz X G.nm ca) EX C o) (tEs (zz X G.nm ca) EX C es) σ H Q := fun σ H Q q => by
    obtain ⟨m, st, h, rs, p⟩ := q
    rw [ev] at p
    refine stepE rs p fun m1 H1 x v h1 e1 rs1 v1 p1 => ?_
    unfold pmG at p1
    split at p1
    · rename_i ty
      refine ⟨tyOk rs1.rep v1 ty, ?_⟩
      refine stepEs rs1 p1 fun m2 H2 xs vs h2 e2 rs2 v2 p2 => ?_
      exact ⟨m2, h2, v, vs, rs2.rep, RV.mono e2 _ _ v1, v2, Post.end_ (pure_pmF _ _ _ _) p2⟩
    · exact False.elim p1
  cases xs with
  | nil =>
    obtain rfl := h0 rfl
    refine pe_w (pe_bm0 (pm_pa p) (pm_slot p) (pm_ty p) (pm_S (nm := G.nm) (ca := ca) hu p) ho (abase hy) hl) fun σ H Q q => ?_
    obtain ⟨m, st, h, rs, p⟩ := go σ H Q q
    refine ⟨m, st, h, rs, ?_⟩
    cases r : ev C o st h with
    | ok v h1 =>
      rw [r] at p
      intro m' H' e' r' x rv
      obtain ⟨t1, t2⟩ := p m' H' e' r' x rv
      exact ⟨t1, nil_es t2⟩
    | exc _ _ _ => rw [r] at p; exact p
    | stk => rw [r] at p; exact p
  | cons z zs =>
    have hs' := hs
    rw [List.all_cons, Bool.and_eq_true] at hs
    exact pe_w (pe_bm (pm_pa p) (pm_slot p) (pm_ty p) (pm_S (nm := G.nm) (ca := ca) hu p) ho ha (abase hy) (few_ok hs' hxs) hl (star_cons hs.1) (star_any hs.2)) go
theorem mt_tup_index_i : MtR X "tuple.index" (fun x xs H Q => ∃ p, ∃ ns : List Int, ∃ k, x = .ref p ∧ xs = [.int k] ∧ SqT X.K H p (ns.map V.int) ∧ k ∈ ns ∧ Q (.int (ns.idxOf k : Nat)) H) := by
  intro pins s σ H x xs v us Q I rx rs h
  obtain ⟨p, ns, k, rfl, rfl, hq, hk, q⟩ := h
  cases rx
  obtain ⟨u, rfl, t, rfl⟩ := vals1 rs
  obtain ⟨its, r, pl, hz⟩ := I.tuple hq
  obtain ⟨⟨cls, dd, dt, sl⟩, ho, hc, n, hd⟩ := pl
  simp only at hc hd
  subst hc
  subst hd
  exact PySem.SeqAt.tuple_index_ints ⟨_, ho, rfl, _, rfl⟩ (intsAre_of r) hk ⟨.int (ns.idxOf k : Nat), H, I.tok _, ⟨_, rfl⟩, q⟩
/-- a tuple of texts of the module -/
theorem s_gix {e : E} {i : Nat} {x : Str} {pp ap pos : Pos} {y : Expr} (g : Good G ca CX EK n k X) (hC : C.glob = fun k => (G.globs[k]?).map (·.2)) (hi : (G.globs[i]?).map (·.1) = some x) (htu : (match G.globs[i]? with | some (_, .tup _) => true | _ => false) = true) (hg : glB k x = true)
    (he : PE X y (tE (zz X G.nm ca) EX C e)) (hs : notStar y = true) (hl : (ap.endLine == pos.line) = true) : PE X (.Call (.Attribute (.Name x pp) ("index" : Str) ap) [y] [] pos) (tE (zz X G.nm ca) EX C (.gix i e)) := by
  cases q : G.globs[i]? with
  | none => rw [q] at hi; cases hi
  | some gv =>
    obtain ⟨w0, w⟩ := gv
    rw [q] at hi
    cases hi
    obtain ⟨x', u, h1, h2, h3, h4⟩ := g.lk.glob i _ _ q
    obtain ⟨g1, g2⟩ := glB_gl g.sc hg
    have hs' : [y].all notStar = true := by rw [List.all_cons, hs]; rfl
    have hpa : PA X [y] (tCons (tE (zz X G.nm ca) EX C e) tNil) := pa_cons he pa_nil (star_cons hs)
    refine pe_w (pe_bm PySem.F.plainAttrs_tuple PySem.F.slot_tuple_index PySem.F.type_tuple_index (mt_tup_index.or mt_tup_index_i) (pe_glob g1 h1 h2 g2) hpa rfl (few_ok hs' (by rw [List.length_singleton]; omega)) hl (star_cons hs) (star_any (xs := []) rfl)) fun σ H Q q2 => ?_
    obtain ⟨m, st, h, rs, p⟩ := q2
    have hgl : C.glob i = some w := by rw [hC]; show (G.globs[i]?).map (·.2) = _; rw [q]; rfl
    rw [ev] at p
    have rv := h3 m H
    have main : ∀ a xs vs, x' = V.ref a → w = .tup vs → SqT X.K (fun _ => none) a xs → RVs X.K [] (fun _ => none) vs xs → tBM X.K "tuple" (fun x xs H Q => (∃ p, ∃ ys : List Str, ∃ z j, x = .ref p ∧ xs = [.str z] ∧ SqT X.K H p (ys.map V.str) ∧ ys[j]? = some z ∧ (∀ m, m < j → ys[m]? ≠ some z) ∧ Q (.int (j : Nat)) H) ∨ ∃ p, ∃ ns : List Int, ∃ k, x = .ref p ∧ xs = [.int k] ∧ SqT X.K H p (ns.map V.int) ∧ k ∈ ns ∧ Q (.int (ns.idxOf k : Nat)) H) (tC x') (tCons (tE (zz X G.nm ca) EX C e) tNil) σ H Q := fun a xs vs ex ew hq rvs => by
      subst ex ew
      have hqK : ∀ H', SqT X.K H' a xs := fun H' => by
        rcases hq with (hq | ⟨o, hq⟩) | hq
        · cases hq
        · cases hq
        · exact .inr hq
      refine ⟨.inr (.inl ⟨rfl, ?_⟩), ?_⟩
      · obtain ⟨a', o, y1, y2, y3, y4⟩ := h4 _ rfl
        cases y1
        exact ⟨o, y2, y3, y4⟩
      · refine stepE rs p fun m1 H1 x1 v h1' e1 rs1 v1 p1 => ?_
        unfold gixG at p1
        rw [hgl] at p1
        dsimp only at p1
        cases v1 with
        | str s =>
          simp only [gixF] at p1
          split at p1
          · rename_i ts ets
            split at p1
            · rename_i j ej
              have ex := rvs.strs ets
              rw [List.findIdx?_eq_some_iff_getElem] at ej
              obtain ⟨hj, hj1, hj2⟩ := ej
              refine .inl ⟨a, ts.map mk, mk s, j, rfl, rfl, by rw [← ex]; exact hqK H1, ?_, fun m' hm' => ?_, PostG.at_ p1 rs1.rep _ (.int _)⟩
              · have e : ts[j] = s := of_decide_eq_true hj1
                rw [List.getElem?_map, List.getElem?_eq_getElem hj, e]
                rfl
              · have hlt : m' < ts.length := by omega
                have ne := hj2 m' hm'
                rw [List.getElem?_map, List.getElem?_eq_getElem hlt]
                intro z
                apply ne
                have z' : mk ts[m'] = mk s := Option.some.inj z
                exact decide_eq_true (mk_inj.mp z')
            · exact False.elim p1
          · exact False.elim p1
        | int i =>
          simp only [gixF] at p1
          split at p1
          · rename_i ns ens
            split at p1
            · rename_i hi
              have ex := rvs.ints ens
              exact .inr ⟨a, ns, i, rfl, rfl, by rw [← ex]; exact hqK H1, hi, PostG.at_ p1 rs1.rep _ (.int _)⟩
            · exact False.elim p1
          · exact False.elim p1
        | _ => exact False.elim p1
    have rv0 := h3 [] (fun _ => none)
    cases rv0 with
    | tup a b => exact main _ _ _ rfl rfl a b
    | _ => rw [q] at htu; exact Bool.noConfusion htu
def tyS : Ty → String
  | .bool => "bool" | .int => "int" | .str => "str" | .list => "list" | .tuple => "tuple"
theorem ty_boot (t : Ty) : bootBuiltins (tyN t) = some (.type (tyS t)) := by cases t <;> decide +kernel
theorem ty_name (t : Ty) : tyN t ≠ "__name__" := by cases t <;> decide
theorem isi_boot : bootBuiltins "isinstance" = some (.builtin "isinstance") := by decide +kernel
theorem isi_ok {Z : Ev} {m : List Addr} {h : Hs} {H : Hp} {v : Val} {x : V} {t : Ty} {b : Bool} (r : Rep Z m h H) (rv : RV Z.K m H v x) (e : isiF v t h = some b) : ∃ u, TyX Z.K H x u ∧ PySem.W.kitOne Z.K u (.type (tyS t)) = some b := by
  cases rv with
  | non => cases e; exact ⟨_, .base .non, kit_ty (by cases t <;> decide +kernel)⟩
  | bl c => cases e; exact ⟨_, .base (.bl c), kit_ty (by cases t <;> decide +kernel)⟩
  | int c => cases e; exact ⟨_, .base (.int c), kit_ty (by cases t <;> decide +kernel)⟩
  | str c => cases e; exact ⟨_, .base (.str _), kit_ty (by cases t <;> decide +kernel)⟩
  | tup h1 h2 =>
    cases e
    refine ⟨.type "tuple", ?_, kit_ty (by cases t <;> decide +kernel)⟩
    rcases h1 with (h1 | ⟨o, h1⟩) | ⟨o, its, n, h1, h3, _⟩
    · exact .base (.tup h1)
    · exact .fTuple h1
    · exact .kTuple h1 h3
  | @ref n a hn =>
    simp only [isiF] at e
    split at e
    · rename_i vs hb
      cases e
      obtain ⟨xs, z1, z2⟩ := r.lst hn hb
      exact ⟨_, .base (.lst z1), kit_ty (by cases t <;> decide +kernel)⟩
    · rename_i vs hb
      cases e
      obtain ⟨xs, z1, z2⟩ := r.at_ hn hb
      refine ⟨.type "list", ?_, kit_ty (by cases t <;> decide +kernel)⟩
      rcases z1 with ⟨o, z1⟩ | (z1 | ⟨o, z1⟩) | ⟨o, its, n, h1, h3, _⟩
      · exact .base (.frz z1)
      · cases z1
      · cases z1
      · exact .kList h1 h3
    · rename_i kvs hb
      cases e
      obtain ⟨xs, z1, z2⟩ := r.dct hn hb
      exact ⟨_, .base (.dK z1), kit_ty (by cases t <;> decide +kernel)⟩
    · cases e
theorem s_isi {e : E} {t : Ty} {x z : Str} {pp zp pos : Pos} {y : Expr} (g : Good G ca CX EK n k X) (hx : x = "isinstance") (hg : biB G k x = true) (he : PE X y (tE (zz X G.nm ca) EX C e)) (hs : notStar y = true) (hz : z = tyN t) (hg2 : biB G k z = true) :
    PE X (.Call (.Name x pp) [y, .Name z zp] [] pos) (tE (zz X G.nm ca) EX C (.isi e t)) := by
  obtain ⟨g1, g2, g3⟩ := bi_ok g hg
  obtain ⟨g4, g5, g6⟩ := bi_ok g hg2
  subst hx hz
  have e2 : starEach [.Name (tyN t) zp] X.env = [(false, eval (.Name (tyN t) zp) X.env)] := rfl
  refine pe_w (pe_callB call_isi g1 g3 isi_boot (pa_cons he (pa_cons (pe_bltn (v := .ty (tyS t)) g4 g6 (ty_boot t) rfl (ty_name t) g5) pa_nil e2) (star_cons hs)) (by decide) g2 (star_cons hs) (star_any rfl)) fun σ H Q q => ?_
  obtain ⟨m, st, h, rs, p⟩ := q
  rw [ev] at p
  refine stepE rs p fun m1 H1 x1 v h1' e1 rs1 v1 p1 => ?_
  obtain ⟨b, eb, p2⟩ := PostG.ofO p1
  obtain ⟨u, t1, t2⟩ := isi_ok rs1.rep v1 eb
  exact ⟨x1, .ty (tyS t), u, .type (tyS t), b, rfl, .ty _, t1, t2, PostG.at_ p2 rs1.rep _ (.bl _)⟩
/-! displays -/
inductive Trs (Z : Ev) (EX : WX) (C : Calls) : Es → List (TE × TE) → Prop
  | nil : Trs Z EX C .nil []
  | cons {a b : E} {es : Es} {r : List (TE × TE)} : Trs Z EX C es r → Trs Z EX C (.cons a (.cons b es)) ((tE Z EX C a, tE Z EX C b) :: r)
theorem trs_ok {Z : Ev} {es : Es} {trs : List (TE × TE)} (t : Trs Z EX C es trs) : ∀ {β : Type} {m : List Addr} {h : Hs} {st : Sl} {σ : St} {H : Hp} {f : List Val → Hs → R β} {W : WT β} {K : List (V × V) → Hp → Prop}, RepS Z m st h σ H → PostG Z EX m H ((evs C es st h).bind f) W →
    (∀ m1 H1 xs vs h1, Ext m H m1 H1 → RepS Z m1 st h1 σ H1 → RVs Z.K m1 H1 vs xs → PostG Z EX m1 H1 (f vs h1) W → K (pairV xs) H1) → tPairs trs σ H K := by
  induction t with
  | nil =>
    intro β m h st σ H f W K rs p hk
    rw [evs] at p
    exact hk m H [] [] h (Ext.refl _ _) rs .nil p
  | @cons a b es r t ih =>
    intro β m h st σ H f W K rs p hk
    have e : (evs C (.cons a (.cons b es)) st h).bind f = (ev C a st h).bind fun x h => (ev C b st h).bind fun y h => (evs C es st h).bind fun xs h => f (x :: y :: xs) h := by
      rw [evs]
      cases ev C a st h with
      | ok x h1 =>
        rw [R.bind_ok, R.bind_ok]
        unfold consG
        rw [evs]
        cases ev C b st h1 with
        | ok y h2 =>
          rw [R.bind_ok, R.bind_ok]
          unfold consG
          cases evs C es st h2 <;> rfl
        | _ => rfl
      | _ => rfl
    rw [e] at p
    refine stepE rs p fun m1 H1 x va h1 e1 rs1 v1 p1 => ?_
    refine stepE rs1 p1 fun m2 H2 y vb h2 e2 rs2 v2 p2 => ?_
    refine ih rs2 p2 fun m3 H3 xs vs h3 e3 rs3 v3 p3 => ?_
    exact hk m3 H3 (x :: y :: xs) (va :: vb :: vs) h3 (e1.trans (e2.trans e3)) rs3 (.cons (RV.mono e3 _ _ (RV.mono e2 _ _ v1)) (.cons (RV.mono e3 _ _ v2) v3)) p3
theorem s_dic0 {pos : Pos} : PE X (.Dict [] [] pos) (tE (zz X G.nm ca) EX C (.dic .nil)) := by
  refine pe_w pe_dnewK fun σ H Q q => ?_
  obtain ⟨m, st, h, rs, p⟩ := q
  intro a ha
  rw [ev, evs, R.bind_ok] at p
  unfold dicF at p
  have e1 : (h ++ [Ob.dct []])[h.length]? = some (.dct []) := by simp
  rw [e1] at p
  simp only [pairsOf, List.length_nil, Nat.zero_le, if_true] at p
  have e2 : (h ++ [Ob.dct []]).set h.length (.dct (dmerge [])) = h ++ [.dct []] := by
    rw [List.set_append_right _ _ (Nat.le_refl _)]
    simp [dmerge]
  rw [e2] at p
  exact Post.mkNew (ob := .dct []) (Post.end_ (pure_new _ _) p) rs.rep ha ⟨[], upd_same, .nil⟩
theorem s_dic {es : Es} {keys : List (Option Expr)} {values : List Expr} {trs : List (TE × TE)} {pos : Pos} (t : Trs (zz X G.nm ca) EX C es trs) (h : PPs X pos keys values trs) (hall : keys.all (·.isSome) = true) (hl : keys.length = values.length) (h0 : keys ≠ [])
    (h15 : keys.length ≤ 15) : PE X (.Dict keys values pos) (tE (zz X G.nm ca) EX C (.dic es)) := by
  refine pe_w (pe_disp h hall hl h0 h15) fun σ H Q q => ?_
  obtain ⟨m, st, h, rs, p⟩ := q
  rw [ev] at p
  intro a ha
  have ex : Ext m H (m ++ [a]) (upd H a (.dK [])) := ext_new ha
  have r1 : Rep (zz X G.nm ca) (m ++ [a]) (h ++ [.dct []]) (upd H a (.dK [])) := rs.rep.new ha ⟨[], upd_same, .nil⟩
  have ea : (m ++ [a])[h.length]? = some a := by rw [← rs.rep.len]; simp
  refine trs_ok t (rs.mono ex r1) (p.mono ex) fun m1 H1 xs vs h1 e1 rs1 v1 p1 => ?_
  unfold dicF at p1
  split at p1
  · rename_i kvs e2 e3
    obtain ⟨kxs, w1, w2⟩ := rs1.rep.dct (e1.pre _ _ ea) e2
    cases w2
    obtain ⟨kx, z1, z2⟩ := pairs_rv v1 e3
    split at p1
    · rename_i hle
      refine ⟨w1, kx, z1, by rw [z2.len]; exact hle, ?_⟩
      exact Post.set (Post.end_ (pure_ok _ _) p1) rs1.rep (.ref (e1.pre _ _ ea)) (e1.pre _ _ ea) e2 rfl rfl w1 (fun _ z => by cases z) (fun _ _ z => by cases z) ⟨_, upd_same, (DR.fold z2 .nil).mono (ext_dct w1)⟩
    · exact False.elim p1
  · exact False.elim p1
end

/-! replace of written texts -/
section
variable {X : Cx}
/-- an expression behind which a token is out -/
def PEK (X : Cx) (e : Expr) (t : TE) : Prop := ∀ (pins : List (Addr × Obj)) (s : Shared) (σ : L2.St) (H : Hp) (Q : VK), Inv X pins σ H s → t σ H Q → wpAny (model X.prog X.w) X.A (eval e X.env) (fun v s1 => EP X pins σ Q v s1 ∧ 1 ≤ s1.toks) X.xe s
theorem pek_str {c : Str} {j : Nat} {cpos : Pos} : PEK X (.Constant (.str c) j cpos) (tC (.str c)) := by
  intro pins s σ H Q I h
  exact Calls.Constant_str ⟨⟨.str c, H, I.tok _, ⟨_, rfl⟩, h⟩, Nat.succ_le_succ (Nat.zero_le _)⟩
theorem pek_w {e : Expr} {t t' : TE} (h : PEK X e t) (k : ∀ σ H Q, t' σ H Q → t σ H Q) : PEK X e t' := fun pins s σ H Q I q => h pins s σ H Q I (k σ H Q q)
theorem pek_op {e f : Expr} {te tf : TE} {op : Operator} {r : R2} {pos : Pos} (ho : OpR X (binaryOp op) r) (ha : PE X e te) (hb : PEK X f tf) : PEK X (.BinOp e op f pos) (tOp r te tf) := by
  intro pins s σ H Q I h
  refine wpAny_BinOp (thn (ha.run pins s σ H _ I h) fun v s1 ⟨x, H1, I1, r1, q1⟩ => thn (hb pins s1 σ H1 _ I1 q1) fun u s2 ⟨⟨y, H2, I2, r2, q2⟩, k⟩ => ?_)
  exact wpAny_mono (PySem.wpAny_toks (ho pins s2 σ H2 x y v u Q I2 r1 r2 q2)) (fun _ s3 q => ⟨q.2, Nat.le_trans k q.1⟩) fun _ _ z => z.2
theorem pe_opk {e f : Expr} {te tf : TE} {op : Operator} {r : R2} {pos : Pos} (ho : OpR X (binaryOp op) r) (ha : PEK X e te) (hb : PET X f tf) : PE X (.BinOp e op f pos) (tOp r te tf) := by
  refine ⟨fun pins s σ H Q I h => ?_⟩
  exact wpAny_BinOp (thn (ha pins s σ H _ I h) fun v s1 ⟨⟨x, H1, I1, r1, q1⟩, k⟩ => thn (hb pins s1 σ H1 _ k I1 q1) fun u s2 ⟨y, H2, I2, r2, q2⟩ => ho pins s2 σ H2 x y v u Q I2 r1 r2 q2)
def tRs (to : TE) (yz : List (List Nat × List Nat)) : TE := yz.foldl (fun t p => CwR.tReplC t (mk p.1) (mk p.2)) to
theorem tRs_last (to : TE) (l : List (List Nat × List Nat)) (p : List Nat × List Nat) : tRs to (l ++ [p]) = CwR.tReplC (tRs to l) (mk p.1) (mk p.2) := by
  unfold tRs
  rw [List.foldl_append]
  rfl
def Mono (t : TE) : Prop := ∀ (σ : L2.St) (H : Hp) (Q Q' : VK), (∀ v H, Q v H → Q' v H) → t σ H Q → t σ H Q'
theorem tRs_ok : ∀ (yz : List (List Nat × List Nat)) (to : TE) (_ : Mono to) (σ : L2.St) (H : Hp) (Q : VK), to σ H (fun v H1 => ∃ s u, v = .str (mk s) ∧ replF yz s = some u ∧ Q (.str (mk u)) H1) → tRs to yz σ H Q
  | [], to, hm, σ, H, Q, h => hm σ H _ _ (fun v H1 ⟨s, u, e1, e2, q⟩ => by cases e2; rw [e1]; exact q) h
  | (y, z) :: r, to, hm, σ, H, Q, h => by
    refine tRs_ok r (CwR.tReplC to (mk y) (mk z)) (fun σ H Q Q' k q => hm σ H _ _ (fun v H1 ⟨x, e1, e2, q⟩ => ⟨x, e1, e2, k _ _ q⟩) q) σ H Q ?_
    refine hm σ H _ _ (fun v H1 ⟨s, u, e1, e2, q⟩ => ?_) h
    rw [replF] at e2
    split at e2
    · rename_i hl
      refine ⟨mk s, e1, ?_, replT s y z, u, ?_, e2, q⟩
      · rw [mk_len, mk_len]; exact hl
      · show V.str _ = V.str (mk (Txt.replace (mk s) (mk y) (mk z)).cps.toList)
        rw [mk_of]
    · cases e2
theorem pet_rs {p : Expr → Bool} {to : TE} (hp : ∀ py, p py = true → PE X py to) : ∀ (l : List (List Nat × List Nat)) (py : Expr), chkR p l py = true → l ≠ [] → PET X py (tRs to l.reverse)
  | [], _, _, h => absurd rfl h
  | (y, z) :: r, py, h, _ => by
    unfold chkR at h
    split at h
    · simp only [Bool.and_eq_true, decide_eq_true_eq] at h
      obtain ⟨⟨⟨⟨⟨⟨h1, h2⟩, h3⟩, h4⟩, h5⟩, h6⟩, h7⟩ := h
      subst h1 h2 h3
      have hyz : (mk y == mk z) = false := by
        rw [beq_eq_false_iff_ne]
        exact fun e => h4 (mk_inj.mp e)
      rw [List.reverse_cons, tRs_last]
      cases r with
      | nil => exact CwR.pet_replC (hp _ h7) hyz (by rfl) (abase h5) h6
      | cons q r => exact CwR.pet_replT (pet_rs hp (q :: r) _ h7 (by simp)) hyz (by rfl) (abase h5) h6
    · cases h
end
section
variable {X : Cx} {G : Tab} {ca : Nat → Addr} {CX : CXT} {EK : XK} {n : Nat} {k : Sc} {EX : WX} {C : Calls}
theorem tE_mono {e : E} : Mono (tE (zz X G.nm ca) EX C e) := fun σ H Q Q' k ⟨m, st, h, rs, p⟩ => by
  refine ⟨m, st, h, rs, ?_⟩
  cases r : ev C e st h with
  | ok v h1 => rw [r] at p; exact fun m' H' e' r' x rv => k _ _ (p m' H' e' r' x rv)
  | exc c vs h1 => rw [r] at p; exact p
  | stk => rw [r] at p; exact p
theorem pek_tok {a : E} {x : Expr} (ht : tokB a = true) (hc : chkE G k a x = true) (hb : ∀ (b : E) (s : List Nat) (y : Expr), a = .bin .Add b (.str s) → chkE G k b y = true → PE X y (tE (zz X G.nm ca) EX C b)) : PEK X x (tE (zz X G.nm ca) EX C a) := by
  have str : ∀ (s : List Nat) (py : Expr), chkE G k (.str s) py = true → PEK X py (tE (zz X G.nm ca) EX C (.str s)) := fun s py h => by
    unfold chkE at h
    split at h
    · rename_i c _ _
      obtain rfl : mk s = c := of_decide_eq_true h
      refine pek_w pek_str fun σ H Q q => ?_
      obtain ⟨m, st, h, rs, p⟩ := q
      exact PostG.at_ p rs.rep _ (.str s)
    · cases h
  cases a with
  | str s => exact str s x hc
  | bin op b c =>
    cases op <;> first
      | (cases c with
         | str s =>
           have hc' := hc
           unfold chkE at hc
           split at hc
           · rename_i px o py pos
             simp only [Bool.and_eq_true, decide_eq_true_eq] at hc
             obtain ⟨⟨e1, h1⟩, h2⟩ := hc
             subst e1
             refine pek_w (pek_op (op_bin (nm := G.nm) (ca := ca) .Add) (hb b s px rfl h1) (str s py h2)) fun σ H Q q => ?_
             obtain ⟨m, st, h, rs, p⟩ := q
             rw [ev] at p
             refine stepE rs p fun m1 H1 x va h1 e1 rs1 v1 p1 => ?_
             refine stepE rs1 p1 fun m2 H2 y vb h2 e2 rs2 v2 p2 => ?_
             exact ⟨m2, h2, va, vb, rs2.rep, RV.mono e2 _ _ v1, v2, Post.end_ (pure_binF _ _ _ _) p2⟩
           · cases hc
         | _ => exact Bool.noConfusion ht)
      | exact Bool.noConfusion ht
  | _ => exact Bool.noConfusion ht
theorem pure_maxDF (a d : Val) (h : Hs) : (maxDF a d h).pure := by
  unfold maxDF
  repeat' first
    | exact pure_ok _ _
    | exact pure_stk
    | split
theorem pure_rlF (a b : Val) (h : Hs) : (rlF a b h).pure := by
  unfold rlF
  repeat' first
    | exact pure_new _ _
    | exact pure_stk
    | split
/-- D.get(k, i) -/
theorem s_gget {e : E} {x m : Str} {kvs : List (List Nat × Int)} {i : Int} {pp ap pos : Pos} {y z : Expr} (g : Good G ca CX EK n k X) (hm : (x, kvs) ∈ G.dcts) (hg : glB k x = true) (hn : m = ("get" : Str))
    (he : PE X y (tE (zz X G.nm ca) EX C e)) (hs : notStar y = true) (hz : PE X z (tC (.int i))) (hs2 : notStar z = true) (hl : (ap.endLine == pos.line) = true) :
    PE X (.Call (.Attribute (.Name x pp) m ap) [y, z] [] pos) (tE (zz X G.nm ca) EX C (.gdct x kvs (some i) e)) := by
  obtain ⟨a, es, n', h1, D, h2⟩ := g.lk.dct x kvs hm
  obtain ⟨g1, g2⟩ := glB_gl g.sc hg
  subst hn
  have hs' : [y, z].all notStar = true := by simp only [List.all_cons, List.all_nil, hs, hs2, Bool.and_self]
  have hpa : PA X [y, z] (tCons (tE (zz X G.nm ca) EX C e) (tCons (tC (.int i)) tNil)) := pa_cons he (pa_cons hz pa_nil (star_cons hs2)) (star_cons hs)
  refine pe_w (pe_bmK PySem.F.plainAttrs_dict PySem.F.slot_dict_get PySem.F.type_dict_get mt_kget (pe_glob (v := .ref a) g1 h1 rfl g2) hpa rfl (few_ok hs' (by show 2 < 29; decide)) hl (star_cons hs) (star_any (xs := [z]) (by simp only [List.all_cons, List.all_nil, hs2, Bool.and_self]))) fun σ H Q q => ?_
  obtain ⟨m, st, h, rs, p⟩ := q
  rw [ev] at p
  refine ⟨⟨a, _, rfl, D.at_, rfl, rfl⟩, ?_⟩
  refine stepE rs p fun m1 H1 x1 v h1' e1 rs1 v1 p1 => ?_
  cases v1 with
  | str s =>
    unfold ggF ggL at p1
    dsimp only at p1
    cases q : kvs.lookup s with
    | some j =>
      rw [q] at p1
      obtain ⟨u, z1, z2⟩ := (h2 s).1 j q
      exact ⟨a, es, n', mk s, .int i, _, rfl, rfl, D, z1, fun u' eu => by cases eu; exact ⟨.int j, z2, PostG.at_ p1 rs1.rep _ (.int _)⟩, fun z => by cases z⟩
    | none =>
      rw [q] at p1
      exact ⟨a, es, n', mk s, .int i, _, rfl, rfl, D, (h2 s).2 q, fun u' eu => (by cases eu), fun _ => PostG.at_ p1 rs1.rep _ (.int _)⟩
  | _ => exact False.elim p1
/-- D[k] -/
theorem s_gdix {e : E} {x : Str} {kvs : List (List Nat × Int)} {pp pos : Pos} {y : Expr} (g : Good G ca CX EK n k X) (hm : (x, kvs) ∈ G.dcts) (hg : glB k x = true)
    (he : PE X y (tE (zz X G.nm ca) EX C e)) (hs : notSlice y = true) : PE X (.Subscript (.Name x pp) y pos) (tE (zz X G.nm ca) EX C (.gdct x kvs none e)) := by
  obtain ⟨a, es, n', h1, D, h2⟩ := g.lk.dct x kvs hm
  obtain ⟨g1, g2⟩ := glB_gl g.sc hg
  refine pe_w (pe_ix ix_kdict (pe_glob (v := .ref a) g1 h1 rfl g2) he (plainIx hs)) fun σ H Q q => ?_
  obtain ⟨m, st, h, rs, p⟩ := q
  rw [ev] at p
  show tE (zz X G.nm ca) EX C e σ H _
  refine stepE rs p fun m1 H1 x1 v h1' e1 rs1 v1 p1 => ?_
  cases v1 with
  | str s =>
    unfold ggF ggL at p1
    dsimp only at p1
    cases q : kvs.lookup s with
    | some j =>
      rw [q] at p1
      obtain ⟨u, z1, z2⟩ := (h2 s).1 j q
      exact ⟨a, mk s, .int j, rfl, rfl, ⟨es, n', u, D.at_, D.lit, z1, z2⟩, PostG.at_ p1 rs1.rep _ (.int _)⟩
    | none =>
      rw [q] at p1
      exact False.elim p1
  | _ => exact False.elim p1
theorem s_maxD {a d : E} {x kw : Str} {pp pos kp : Pos} {y z : Expr} (g : Good G ca CX EK n k X) (hx : x = ("max" : Str)) (hk : kw = ("default" : Str)) (hg : biB G k x = true)
    (ha : PE X y (tE (zz X G.nm ca) EX C a)) (hs : notStar y = true) (hd : PE X z (tE (zz X G.nm ca) EX C d)) : PE X (.Call (.Name x pp) [y] [⟨some kw, z, kp⟩] pos) (tE (zz X G.nm ca) EX C (.maxD a d)) := by
  obtain ⟨g1, g2, g3⟩ := bi_ok g hg
  subst hx
  subst hk
  have e2 : starEach [y] X.env = [(false, eval y X.env)] := star_cons hs
  refine pe_w (pe_callBK (cr_maxDef g.calm) g1 g3 (by first | rfl | decide +kernel) (pa_cons ha pa_nil e2) (pk_cons hd pk_nil) (by decide) g2 (by rw [e2]; rfl) (by rw [e2]; rfl)) fun σ H Q q => ?_
  obtain ⟨m, st, h, rs, p⟩ := q
  rw [ev] at p
  refine stepE rs p fun m1 H1 x va h1 e1 rs1 v1 p1 => ?_
  show tE (zz X G.nm ca) EX C d σ H1 _
  refine stepE rs1 p1 fun m2 H2 y vb h2 e2 rs2 v2 p2 => ?_
  have v1' := RV.mono e2 _ _ v1
  unfold maxDF at p2
  split at p2
  · rename_i n' j
    cases v2
    cases v1' with
    | @ref _ a' hn =>
      split at p2
      · rename_i ws ew
        split at p2
        · rename_i ns en
          obtain ⟨zs, y1, y2⟩ : ∃ zs, SqL X.K H2 a' zs ∧ RVs X.K m2 H2 ws zs := by
            simp only [seqOf] at ew
            split at ew
            · rename_i w' e'
              cases ew
              exact rs2.rep.seqL hn (.inl e')
            · rename_i w' e'
              cases ew
              exact rs2.rep.seqL hn (.inr e')
            · cases ew
          refine ⟨a', ns, .int j, rfl, rfl, by rw [← y2.ints en]; exact y1, fun z => ?_, fun mx h1 h2' => ?_⟩
          · subst z
            exact PostG.at_ p2 rs2.rep _ (.int _)
          · cases q : mxI ns with
            | none =>
              cases ns with
              | nil => cases h1
              | cons u us =>
                unfold mxI at q
                split at q <;> cases q
            | some k' =>
              rw [q] at p2
              rw [mxI_uniq q h1 h2']
              exact PostG.at_ p2 rs2.rep _ (.int _)
        · exact False.elim p2
      · exact False.elim p2
  · exact False.elim p2
theorem rvs_range {K : PySem.W.Frag} {m : List Addr} {H : Hp} : ∀ (n : Nat) (i : Int), RVs K m H (rangeV i 1 n) ((List.range n).map fun k => V.int (i + (k : Nat)))
  | 0, _ => .nil
  | n + 1, i => by
    rw [rangeV, List.range_succ_eq_map, List.map_cons, List.map_map]
    refine .cons (by rw [show i + ((0 : Nat) : Int) = i by omega]; exact .int i) ?_
    have := rvs_range (K := K) (m := m) (H := H) n (i + 1)
    have e : ((fun k => V.int (i + ((k : Nat) : Int))) ∘ Nat.succ) = fun k => V.int (i + 1 + ((k : Nat) : Int)) := by
      funext k
      show V.int _ = V.int _
      congr 1
      push_cast
      omega
    rw [e]
    exact this
theorem s_rlst {a b : E} {x r : Str} {p1 p2 p3 pos : Pos} {y z : Expr} (g : Good G ca CX EK n k X) (hx : x = ("list" : Str)) (hr : r = ("range" : Str)) (hg : biB G k x = true) (hg2 : biB G k r = true)
    (ha : PE X y (tE (zz X G.nm ca) EX C a)) (hs : notStar y = true) (hb : PE X z (tE (zz X G.nm ca) EX C b)) (hs2 : notStar z = true) : PE X (.Call (.Name x p1) [.Call (.Name r p2) [y, z] [] p3] [] pos) (tE (zz X G.nm ca) EX C (.rlst a b)) := by
  obtain ⟨g1, g2, g3⟩ := bi_ok g hg
  obtain ⟨k1, k2, k3⟩ := bi_ok g hg2
  subst hx
  subst hr
  have e2 : starEach [z] X.env = [(false, eval z X.env)] := star_cons hs2
  refine pe_w (pe_listRg g.calm g1 g3 (prg_2 k1 k3 ha hb (star_cons hs) e2 (by rw [e2]; rfl))) fun σ H Q q => ?_
  obtain ⟨m, st, h, rs, p⟩ := q
  rw [ev] at p
  refine stepE rs p fun m1 H1 x va h1 e1 rs1 v1 p1 => ?_
  refine stepE rs1 p1 fun m2 H2 y vb h2 e2 rs2 v2 p2 => ?_
  unfold rlF at p2
  split at p2
  · rename_i i j
    cases v1
    cases v2
    split at p2
    · rename_i hc
      obtain ⟨c1, c2, c3, c4, c5⟩ := hc
      refine ⟨i, j, rfl, rfl, ⟨c1, c2, c3, c4, c5⟩, fun q hq => ?_⟩
      exact Post.lst (Post.end_ (pure_new _ _) p2) rs2.rep hq (rvs_range _ _)
    · exact False.elim p2
  · exact False.elim p2
theorem s_catR {a o : E} {yz : List (List Nat × List Nat)} {x y : Expr} {pos : Pos} (hk : PEK X x (tE (zz X G.nm ca) EX C a)) (ho : ∀ py, chkE G k o py = true → PE X py (tE (zz X G.nm ca) EX C o)) (hr : chkR (fun z => chkE G k o z) yz.reverse y = true) (hn : yz ≠ []) :
    PE X (.BinOp x .Add y pos) (tE (zz X G.nm ca) EX C (.catR a o yz)) := by
  have hp := pet_rs (X := X) (to := tE (zz X G.nm ca) EX C o) ho yz.reverse y hr (by simpa using hn)
  rw [List.reverse_reverse] at hp
  refine pe_w (pe_opk (op_bin (nm := G.nm) (ca := ca) .Add) hk hp) fun σ H Q q => ?_
  obtain ⟨m, st, h, rs, p⟩ := q
  rw [ev] at p
  refine stepE rs p fun m1 H1 x va h1 e1 rs1 v1 p1 => ?_
  refine tRs_ok yz _ tE_mono σ H1 _ ?_
  refine stepE rs1 p1 fun m2 H2 y vb h2 e2 rs2 v2 p2 => ?_
  unfold catK at p2
  cases v2 with
  | str t =>
    dsimp only at p2
    cases r : replF yz t with
    | none => rw [r] at p2; exact False.elim p2
    | some u =>
      rw [r] at p2
      exact ⟨t, u, rfl, r, m2, h2, va, .str u, rs2.rep, RV.mono e2 _ _ v1, .str u, Post.end_ (pure_binF _ _ _ _) p2⟩
  | _ => exact False.elim p2
end

/-! f-strings -/
section
variable {X : Cx}
def tFmtW (w : Nat) (te : TE) : TE := fun σ H Q => te σ H fun x H1 => ∃ i : Int, x = .int i ∧ 0 ≤ i ∧ i.natAbs.log2 < 1920 ∧ Q (.str (mk (padS w i))) H1
theorem pe_fmtW {e : Expr} {te : TE} {w j : Nat} {pos cp jp : Pos} (h1 : 1 ≤ w) (h2 : w < 10) (he : PE X e te) : PE X (.FormattedValue e (-1) (some (.JoinedStr [.Constant (.str (mk (specL w))) j cp] jp)) pos) (tFmtW w te) := by
  obtain ⟨f, f1, f2, f3, f4, f5, f6, f7, f8, f9⟩ := FmtT.spec_ok w h2 h1
  refine ⟨fun pins s σ H Q I h => wpAny_FormattedValue_spec (thn (he.run pins s σ H _ I h) fun v s1 ⟨x, H1, I1, r1, i, e1, h0, hd, q⟩ => ?_)⟩
  subst e1
  obtain ⟨t, rfl⟩ := r1
  have tx : PyProof.Rows.intSpecText f i = mk (padS w i) := by
    rw [PyProof.Rows.intSpecText_zero f3 f4 f5 f6 h0, f7]
    refine Str.ext' ?_
    rw [Str.cps_append]
    unfold padS
    rw [FmtT.numS_len h0]
    unfold numS
    simp [mk]
  have len : (PyProof.Rows.intSpecText f i).length ≤ sizeLine := by
    rw [PyProof.Rows.intSpecText_length i f3 f4, sizeLine_eq, f7]
    have hl : (Nat.toDigits 10 i.natAbs).length ≤ 4300 := by
      have := FmtT.digs_le hd
      exact this
    have hneg : ¬ i < 0 := by omega
    split <;> omega
  refine wpAny_JoinedStr_one (Calls.Constant_str ⟨mk (specL w), _, rfl, ?_⟩)
  refine PyProof.Rows.field_small hd f1 f8 f9 f2 ?_ (by rw [mk_len, lim_eq]; show 3 ≤ lim; decide) len
  rw [tx]
  exact ⟨.str (mk (padS w i)), H1, (I1.tok _), ⟨_, rfl⟩, q⟩
end
section
variable {X : Cx} {G : Tab} {ca : Nat → Addr} {CX : CXT} {EK : XK} {n : Nat} {k : Sc} {EX : WX} {C : Calls}
theorem s_fmt0 {e : E} {x : Expr} {pos : Pos} (he : PE X x (tE (zz X G.nm ca) EX C e)) : PE X (.FormattedValue x (-1) none pos) (tE (zz X G.nm ca) EX C (.fmt e 0)) := by
  refine pe_w (pe_fmt he) fun σ H Q q => ?_
  obtain ⟨m, st, h, rs, p⟩ := q
  rw [ev] at p
  refine stepE rs p fun m1 H1 x v h1 e1 rs1 v1 p1 => ?_
  unfold fmtF at p1
  cases v1 with
  | str s =>
    dsimp only at p1
    split at p1
    · rename_i hl
      exact .inl ⟨mk s, rfl, by rw [mk_len, lim_eq]; exact hl.2, PostG.at_ p1 rs1.rep _ (.str s)⟩
    · exact False.elim p1
  | int i =>
    dsimp only at p1
    split at p1
    · rename_i hl
      rw [if_pos rfl] at p1
      have := PostG.at_ p1 rs1.rep _ (.str (numS i))
      unfold numS at this
      rw [mk_of] at this
      exact .inr ⟨i, rfl, hl.1, this⟩
    · exact False.elim p1
  | _ => exact False.elim p1
theorem s_fmtW {e : E} {x : Expr} {w j : Nat} {pos cp jp : Pos} (h1 : 1 ≤ w) (h2 : w < 10) (he : PE X x (tE (zz X G.nm ca) EX C e)) : PE X (.FormattedValue x (-1) (some (.JoinedStr [.Constant (.str (mk (specL w))) j cp] jp)) pos) (tE (zz X G.nm ca) EX C (.fmt e w)) := by
  refine pe_w (pe_fmtW h1 h2 he) fun σ H Q q => ?_
  obtain ⟨m, st, h, rs, p⟩ := q
  rw [ev] at p
  refine stepE rs p fun m1 H1 x v h1' e1 rs1 v1 p1 => ?_
  have w0 : ¬ w = 0 := by omega
  unfold fmtF at p1
  cases v1 with
  | str s =>
    dsimp only at p1
    rw [if_neg (fun z => w0 z.1)] at p1
    exact False.elim p1
  | int i =>
    dsimp only at p1
    split at p1
    · rename_i hl
      exact ⟨i, rfl, hl.2.resolve_left w0, hl.1, PostG.at_ p1 rs1.rep _ (.str (padS w i))⟩
    · exact False.elim p1
  | _ => exact False.elim p1
inductive PJE (X : Cx) (Z : Ev) (EX : WX) (C : Calls) : List Expr → Es → Prop where
  | nil : PJE X Z EX C [] .nil
  | cons {x : Expr} {e : E} {xs : List Expr} {es : Es} (h : PE X x (tE Z EX C e)) (r : PJE X Z EX C xs es) : PJE X Z EX C (x :: xs) (.cons e es)
def esT (Z : Ev) (EX : WX) (C : Calls) : Es → List TE
  | .nil => []
  | .cons e es => tE Z EX C e :: esT Z EX C es
theorem PJE.pj {Z : Ev} {xs : List Expr} {es : Es} (h : PJE X Z EX C xs es) : PJ X xs (esT Z EX C es) := by
  induction h with
  | nil => exact .nil
  | cons h r ih => exact .cons h ih
theorem tjs_ok {Z : Ev} {Q : VK} : ∀ (es : Es) (acc : List Nat) {m : List Addr} {st : Sl} {h h2 : Hs} {σ : L2.St} {H : Hp} {vs : List Val} {ts : List (List Nat)}, RepS Z m st h σ H → evs C es st h = .ok vs h2 → isStrs vs = some ts → acc.length + (ts.map List.length).sum ≤ lim →
    PostG Z EX m H (.ok (.str (acc ++ ts.flatten)) h2) (wV Z Q) → tJs (esT Z EX C es) (mk acc) σ H (fun out H1 => Q (.str out) H1)
  | .nil, acc, m, st, h, h2, σ, H, vs, ts, rs, e, es, hl, p => by
    rw [evs] at e
    cases e
    cases es
    have := PostG.at_ p rs.rep _ (.str _)
    rw [List.flatten_nil, List.append_nil] at this
    exact this
  | .cons x xs, acc, m, st, h, h2, σ, H, vs, ts, rs, e, es, hl, p => by
    rw [evs] at e
    cases q1 : ev C x st h with
    | exc _ _ _ => rw [q1] at e; cases e
    | stk => rw [q1] at e; cases e
    | ok v h1 =>
      rw [q1, R.bind_ok] at e
      unfold consG at e
      cases q2 : evs C xs st h1 with
      | exc _ _ _ => rw [q2] at e; cases e
      | stk => rw [q2] at e; cases e
      | ok ws h3 =>
        rw [q2, R.bind_ok] at e
        unfold consK at e
        cases e
        unfold isStrs at es
        split at es
        · rename_i hq
          cases hq
        · rename_i s r hq
          cases hq
          cases q3 : isStrs ws with
          | none => rw [q3] at es; cases es
          | some us =>
            rw [q3] at es
            cases es
            simp only [List.map_cons, List.sum_cons] at hl
            refine ⟨m, st, h, rs, ?_⟩
            rw [q1]
            intro m' H' e' r' y rv
            cases rv
            have ea : mk acc ++ mk s = mk (acc ++ s) := by
              show (⟨_⟩ : Str) = ⟨_⟩
              simp [mk]
            refine ⟨mk s, rfl, ?_, ?_⟩
            · rw [ea, mk_len, List.length_append, lim_eq]; omega
            · rw [ea]
              refine tjs_ok xs (acc ++ s) (rs.mono e' r') q2 q3 (by rw [List.length_append]; omega) ?_
              rw [List.flatten_cons, ← List.append_assoc] at p
              exact PostG.mono (r := R.ok (Val.str (acc ++ s ++ us.flatten)) _) p e'
        · cases es
theorem s_js {es : Es} {x y : Expr} {r : List Expr} {pos : Pos} (h : PJE X (zz X G.nm ca) EX C (x :: y :: r) es) : PE X (.JoinedStr (x :: y :: r) pos) (tE (zz X G.nm ca) EX C (.js es)) := by
  refine pe_w (pe_joined h.pj) fun σ H Q q => ?_
  obtain ⟨m, st, h, rs, p⟩ := q
  rw [ev] at p
  cases q1 : evs C es st h with
  | exc _ _ _ => rw [q1] at p; exact False.elim p
  | stk => rw [q1] at p; exact False.elim p
  | ok vs h2 =>
    rw [q1, noX_ok, R.bind_ok] at p
    unfold jsF at p
    cases q2 : isStrs vs with
    | none => rw [q2] at p; exact False.elim p
    | some ts =>
      rw [q2] at p
      dsimp only at p
      split at p
      · rename_i hl
        exact tjs_ok es [] rs q1 q2 (by simpa using hl) (by simpa using p)
      · exact False.elim p
end
end MP

set_option Elab.async false
set_option linter.all false
set_option maxRecDepth 100000
set_option maxHeartbeats 4000000
set_option autoImplicit false
/-! MPl: what is walked; comprehensions. -/
namespace MP
open PySem PySem.Spec L2
open PyProof.Rows hiding St

def tI (Z : Ev) (EX : WX) (C : Calls) (i : I) : TI := fun σ H R => ∃ m st h, RepS Z m st h σ H ∧ PostG Z EX m H (evi C i st h) (fun src m' _ H' => ∀ J, JR Z m' H' src J → R J H')
section
variable {X : Cx} {G : Tab} {ca : Nat → Addr} {CX : CXT} {EK : XK} {n : Nat} {k : Sc} {EX : WX} {C : Calls}
theorem i_val {e : E} {py tg : Expr} (he : PE X py (tE (zz X G.nm ca) EX C e)) : PI X tg py (tI (zz X G.nm ca) EX C (.val e)) := by
  refine pi_any fun σ H R q => ?_
  obtain ⟨m, st, h, rs, p⟩ := q
  rw [evi] at p
  cases r : ev C e st h with
  | stk => rw [r] at p; exact False.elim p
  | exc c vs h1 =>
    refine ⟨_, pi_list he, m, st, h, rs, ?_⟩
    rw [r] at p ⊢
    exact p
  | ok v h1 =>
    rw [r, MP.R.bind_ok] at p
    cases v with
    | tup vs =>
      refine ⟨_, pi_tup he, m, st, h, rs, ?_⟩
      rw [r]
      intro m' H' e' r' x rv
      cases rv with
      | tup a b => exact ⟨_, rfl, ⟨_, a⟩, p m' H' e' r' _ (jr_tup a b)⟩
    | str s =>
      refine ⟨_, pi_str he, m, st, h, rs, ?_⟩
      rw [r]
      intro m' H' e' r' x rv
      cases rv
      exact ⟨_, rfl, p m' H' e' r' _ (jr_str s)⟩
    | ref n' =>
      refine ⟨_, pi_list he, m, st, h, rs, ?_⟩
      rw [r]
      intro m' H' e' r' x rv
      cases rv with
      | ref hn =>
        unfold srcF at p
        dsimp only at p
        split at p
        · rename_i vs hb
          obtain ⟨xs, hq, _⟩ := r'.seqL hn (.inl hb)
          exact ⟨_, rfl, ⟨xs, hq⟩, p m' H' e' r' _ (jr_lst hn)⟩
        · rename_i vs hb
          obtain ⟨xs, hq, _⟩ := r'.seqL hn (.inr hb)
          exact ⟨_, rfl, ⟨xs, hq⟩, p m' H' e' r' _ (jr_lst hn)⟩
        · exact False.elim p
    | _ => exact False.elim p
theorem i_rng1 {a : E} {y tg : Expr} {nm : Str} {pp pos : Pos} (g : Good G ca CX EK n k X) (hx : nm = "range") (hg : biB G k nm = true) (ha : PE X y (tE (zz X G.nm ca) EX C a)) (hs : notStar y = true) :
    PI X tg (.Call (.Name nm pp) [y] [] pos) (tI (zz X G.nm ca) EX C (.rng1 a)) := by
  obtain ⟨g1, g2, g3⟩ := bi_ok g hg
  subst hx
  refine pi_any fun σ H R q => ⟨_, pi_range1 g1 g3 (pa_cons ha pa_nil (star_cons hs)) (star_cons hs), ?_⟩
  obtain ⟨m, st, h, rs, p⟩ := q
  rw [evi] at p
  refine stepE rs p fun m1 H1 x va h1 e1 rs1 v1 p1 => ?_
  cases v1 with
  | int i =>
    unfold rng1F at p1
    dsimp only at p1
    split at p1
    · rename_i hb
      exact ⟨i, rfl, hb.1, hb.2, PostG.at_ p1 rs1.rep _ (jr_rng 0 i.toNat)⟩
    · exact False.elim p1
  | _ => exact False.elim p1
theorem i_rng2 {a b : E} {y z tg : Expr} {nm : Str} {pp pos : Pos} (g : Good G ca CX EK n k X) (hx : nm = "range") (hg : biB G k nm = true) (ha : PE X y (tE (zz X G.nm ca) EX C a)) (hb : PE X z (tE (zz X G.nm ca) EX C b))
    (hs : notStar y = true) (hs2 : notStar z = true) : PI X tg (.Call (.Name nm pp) [y, z] [] pos) (tI (zz X G.nm ca) EX C (.rng2 a b)) := by
  obtain ⟨g1, g2, g3⟩ := bi_ok g hg
  subst hx
  have e2 : starEach [z] X.env = [(false, eval z X.env)] := star_cons hs2
  refine pi_any fun σ H R q => ⟨_, pi_range2 g1 g3 (pa_cons ha (pa_cons hb pa_nil e2) (star_cons hs)) ((star_cons hs).trans (by rw [e2])) e2, ?_⟩
  obtain ⟨m, st, h, rs, p⟩ := q
  rw [evi] at p
  refine stepE rs p fun m1 H1 x va h1 e1 rs1 v1 p1 => ?_
  refine stepE rs1 p1 fun m2 H2 y vb h2 e2 rs2 v2 p2 => ?_
  cases v1 with
  | int i =>
    cases v2 with
    | int j =>
      unfold rng2F at p2
      dsimp only at p2
      split at p2
      · rename_i hb
        exact ⟨i, j, rfl, hb, PostG.at_ p2 rs2.rep _ (jr_rng i _)⟩
      · exact False.elim p2
    | _ => exact False.elim p2
  | _ => exact False.elim p2
theorem i_rng3 {a b c : E} {y z w tg : Expr} {nm : Str} {pp pos : Pos} (g : Good G ca CX EK n k X) (hx : nm = "range") (hg : biB G k nm = true) (ha : PE X y (tE (zz X G.nm ca) EX C a)) (hb : PE X z (tE (zz X G.nm ca) EX C b)) (hc : PE X w (tE (zz X G.nm ca) EX C c))
    (hs : notStar y = true) (hs2 : notStar z = true) (hs3 : notStar w = true) : PI X tg (.Call (.Name nm pp) [y, z, w] [] pos) (tI (zz X G.nm ca) EX C (.rng3 a b c)) := by
  obtain ⟨g1, g2, g3⟩ := bi_ok g hg
  subst hx
  have e3 : starEach [w] X.env = [(false, eval w X.env)] := star_cons hs3
  have e2 : starEach [z, w] X.env = (false, eval z X.env) :: starEach [w] X.env := star_cons hs2
  refine pi_any fun σ H R q => ⟨_, pi_range3 g1 g3 (pa_cons ha (pa_cons hb (pa_cons hc pa_nil e3) e2) (star_cons hs)) (star_cons hs) (star_any (by simp [hs2, hs3])), ?_⟩
  obtain ⟨m, st, h, rs, p⟩ := q
  rw [evi] at p
  refine stepE rs p fun m1 H1 x va h1 e1 rs1 v1 p1 => ?_
  refine stepE rs1 p1 fun m2 H2 y vb h2 e2 rs2 v2 p2 => ?_
  refine stepE rs2 p2 fun m3 H3 w vc h3 e3 rs3 v3 p3 => ?_
  cases v1 with
  | int i =>
    cases v2 with
    | int j =>
      cases v3 with
      | int l =>
        unfold rng3F at p3
        split at p3
        · rename_i ea eb ec
          cases ea
          cases eb
          cases ec
          split at p3
          · rename_i hb
            exact ⟨_, _, -1, _, rfl, RgC.neg hb.1 hb.2.1 hb.2.2.1 hb.2.2.2, PostG.at_ p3 rs3.rep _ (jr_rngC _ (-1) _)⟩
          · exact False.elim p3
        · exact False.elim p3
      | _ => exact False.elim p3
    | _ => exact False.elim p3
  | _ => exact False.elim p3
theorem i_enu {a : E} {y : Expr} {elts : List Expr} {kk : Nat} {tpos : Pos} {nm : Str} {pp pos : Pos} (g : Good G ca CX EK n k X) (hx : nm = "enumerate") (hg : biB G k nm = true) (ha : PE X y (tE (zz X G.nm ca) EX C a)) (hs : notStar y = true) :
    PI X (.Tuple elts kk tpos) (.Call (.Name nm pp) [y] [] pos) (tI (zz X G.nm ca) EX C (.enu a)) := by
  obtain ⟨g1, g2, g3⟩ := bi_ok g hg
  subst hx
  refine pi_any fun σ H R q => ⟨_, pi_enumA g1 g3 (pa_cons ha pa_nil (star_cons hs)) (star_cons hs), ?_⟩
  obtain ⟨m, st, h, rs, p⟩ := q
  rw [evi] at p
  refine stepE rs p fun m1 H1 x va h1 e1 rs1 v1 p1 => ?_
  cases v1 with
  | @ref n' _ hn =>
    unfold enuF at p1
    dsimp only at p1
    split at p1
    · rename_i vs hb
      obtain ⟨xs, hq, _⟩ := rs1.rep.seqL hn (.inl hb)
      exact ⟨_, xs, rfl, .inl ⟨hq, PostG.at_ p1 rs1.rep _ (jr_enu hn)⟩⟩
    · rename_i vs hb
      obtain ⟨xs, hq, _⟩ := rs1.rep.seqL hn (.inr hb)
      exact ⟨_, xs, rfl, .inl ⟨hq, PostG.at_ p1 rs1.rep _ (jr_enu hn)⟩⟩
    · exact False.elim p1
  | tup hq rvs => exact ⟨_, _, rfl, .inr ⟨hq, PostG.at_ p1 rs1.rep _ (jr_enuT hq rvs)⟩⟩
  | _ => exact False.elim p1

/-! ### comprehensions -/
theorem c_none : PTs X [] (tEc (zz X G.nm ca) EX C .none) := by
  refine pts_w pts_nil fun σ H Q q => ?_
  obtain ⟨m, st, h, rs, p⟩ := q
  rw [etc] at p
  exact p.at_ rs.rep
theorem c_some {e : E} {x : Expr} (h : PT X x (tT (zz X G.nm ca) EX C e)) : PTs X [x] (tEc (zz X G.nm ca) EX C (.some e)) := by
  refine pts_w (pts_one h) fun σ H Q q => ?_
  obtain ⟨m, st, h, rs, p⟩ := q
  rw [etc] at p
  exact ⟨m, st, h, rs, p⟩
/-- one turn's work -/
def stepV (C : Calls) (elt : E) (tg : Tg) (cond : Eo) (st : Sl) (ws : List Nat) : Val → Hs → R (Option Val) := stepG tg (etc C cond) (ev C elt) (wipeS st ws)
theorem lc_ok {elt : E} {tg : Tg} {it : I} {cond : Eo} {ws : List Nat} {σ : St} {H : Hp} {Q : VK} (htg : ∀ j ∈ tgI tg, j ∈ ws)
    (q : ∃ m st h, RepS (zz X G.nm ca) m st h σ H ∧ PostG (zz X G.nm ca) EX m H ((evi C it st h).bind (lcG (stepV C elt tg cond st ws))) (wV (zz X G.nm ca) Q)) :
    tLc (tI (zz X G.nm ca) EX C it) (gOf X.K tg) (tEc (zz X G.nm ca) noE C cond) (tE (zz X G.nm ca) noE C elt) ws σ H Q := by
  obtain ⟨m, st, h, rs, p⟩ := q
  refine ⟨m, st, h, rs, ?_⟩
  cases r : evi C it st h with
  | stk => rw [r] at p; exact False.elim p
  | exc _ _ _ => rw [r] at p; exact p
  | ok src h1 =>
    rw [r, R.bind_ok] at p
    unfold lcG at p
    intro m1 H1 e1 r1 J jr D hD
    have p1 := PostG.mono p e1
    have rs1 := rs.mono e1 r1
    have exD : Ext m1 H1 (m1 ++ [D]) (upd H1 D (.lst [])) := ext_new hD
    have rD : Rep (zz X G.nm ca) (m1 ++ [D]) (h1 ++ [.lst []]) (upd H1 D (.lst [])) := r1.new hD ⟨[], upd_same, .nil⟩
    have eD : (m1 ++ [D])[h1.length]? = some D := by rw [← r1.len]; simp
    have p2 := PostG.mono p1 exD
    refine ⟨fun i ms H' => ∃ mm hh, Ext (m1 ++ [D]) (upd H1 D (.lst [])) mm H' ∧ Rep (zz X G.nm ca) mm hh H' ∧ ms = src.items.length - i ∧ i ≤ src.items.length ∧
        PostG (zz X G.nm ca) EX mm H' ((compV (stepV C elt tg cond st ws) src h1.length (src.items.drop i) hh).bind (lcK h1.length)) (wV (zz X G.nm ca) Q),
      ⟨src.items.length, m1 ++ [D], h1 ++ [.lst []], Ext.refl _ _, rD, rfl, Nat.zero_le _, by rw [List.drop_zero]; exact p2⟩, ?_⟩
    rintro i ms H' ⟨mm, hh, ex, rr, rfl, hi, pp⟩
    have exm := exD.trans ex
    by_cases hlt : i < src.items.length
    · rw [List.drop_eq_getElem_cons hlt, compV] at pp
      by_cases hok : src.ok hh = true
      · rw [if_pos hok] at pp
        obtain ⟨j1, _⟩ := jr mm hh H' exm rr hok i
        obtain ⟨j2, j3⟩ := j1 _ (List.getElem?_eq_getElem hlt)
        refine .inr ⟨j2, fun H'' => ∃ ms', ms' < src.items.length - i ∧ ∃ mm hh, Ext (m1 ++ [D]) (upd H1 D (.lst [])) mm H'' ∧ Rep (zz X G.nm ca) mm hh H'' ∧ ms' = src.items.length - (i + 1) ∧ i + 1 ≤ src.items.length ∧
          PostG (zz X G.nm ca) EX mm H'' ((compV (stepV C elt tg cond st ws) src h1.length (src.items.drop (i + 1)) hh).bind (lcK h1.length)) (wV (zz X G.nm ca) Q), fun H'' z => z, fun x H'' hy => ?_⟩
        obtain ⟨m2, e2, r2, v2⟩ := j3 x H'' hy
        have pp' : PostG (zz X G.nm ca) EX m2 H'' ((noX (stepV C elt tg cond st ws src.items[i] hh)).bind fun o h1' => (match o with
          | none => compV (stepV C elt tg cond st ws) src h1.length (src.items.drop (i + 1)) h1'
          | some y => match h1'[h1.length]? with
            | some (.lst acc) => if acc.length < lim then compV (stepV C elt tg cond st ws) src h1.length (src.items.drop (i + 1)) (h1'.set h1.length (.lst (acc ++ [y]))) else .stk
            | _ => .stk).bind (lcK h1.length)) (wV (zz X G.nm ca) Q) := by
          have z := PostG.mono pp e2
          cases w : noX (stepV C elt tg cond st ws src.items[i] hh) with
          | ok a b => rw [w] at z; exact z
          | exc _ _ _ => rw [w] at z; exact z
          | stk => rw [w] at z; exact z
        have p3 := PostG.noX pp'
        unfold stepV stepG at p3
        have rsw : RepS (zz X G.nm ca) m2 (wipeS st ws) hh (L2.wipe σ ws) H'' := (rs1.mono (exm.trans e2) r2).wipe ws
        cases w : setT tg src.items[i] (wipeS st ws) with
        | none => rw [w] at p3; exact False.elim p3
        | some st1 =>
          rw [w] at p3
          dsimp only at p3
          refine setT_ok rsw v2 w fun σ1 rs2 hw => ⟨(hw ws htg).trans wipe_wipe, ?_⟩
          have ex2 := ex.trans e2
          refine stepEc rs2 p3 fun m3 H3 b h3 e3 rs3 p4 => ?_
          cases b with
          | false =>
            rw [if_neg Bool.false_ne_true]
            exact ⟨_, by omega, m3, h3, ex2.trans e3, rs3.rep, rfl, hlt, PostG.at_ p4 rs3.rep⟩
          | true =>
            rw [if_pos rfl]
            refine stepE rs3 p4 fun m4 H4 y vy h4 e4 rs4 v4 p5 => ?_
            have p6 := PostG.at_ p5 rs4.rep
            dsimp only at p6
            have eD4 := (ex2.trans (e3.trans e4)).pre _ _ eD
            split at p6
            · rename_i acc ea
              obtain ⟨xs, z1, z2⟩ := rs4.rep.lst eD4 ea
              split at p6
              · rename_i hla
                refine ⟨xs, z1, by rw [← z2.len, lim_eq]; exact hla, _, by omega, m4, h4.set h1.length (.lst (acc ++ [vy])), ?_, ?_, rfl, hlt, PostG.mono p6 (ext_lst z1)⟩
                · exact (ex2.trans (e3.trans e4)).trans (ext_lst z1)
                · exact rs4.rep.set eD4 ea rfl rfl z1 (fun _ z => by cases z) (fun _ _ z => by cases z) ⟨_, upd_same, RVs.mono (ext_lst z1) _ _ (z2.append (.cons v4 .nil))⟩
              · exact False.elim p6
            · exact False.elim p6
      · rw [if_neg hok] at pp
        exact False.elim pp
    · have hie : i = src.items.length := by omega
      subst hie
      rw [List.drop_length, compV] at pp
      by_cases hok : src.ok hh = true
      · rw [if_pos hok] at pp
        obtain ⟨_, j2⟩ := jr mm hh H' exm rr hok src.items.length
        exact .inl ⟨j2 (Nat.le_refl _), PostG.at_ pp rr _ (.ref (ex.pre _ _ eD))⟩
      · rw [if_neg hok] at pp
        exact False.elim pp
end
end MP

set_option Elab.async false
set_option linter.all false
set_option maxRecDepth 100000
set_option maxHeartbeats 8000000
set_option autoImplicit false
/-! MPm: every expression that the check lets through. -/
namespace MP
open PySem PySem.Spec L2
open PyProof.Rows hiding St

theorem tE_noE {Z : Ev} {EX : WX} {C : Calls} {e : E} {σ : L2.St} {H : Hp} {Q : VK} (h : tE Z noE C e σ H Q) : tE Z EX C e σ H Q := by
  obtain ⟨m, st, h', rs, p⟩ := h
  refine ⟨m, st, h', rs, ?_⟩
  cases q : ev C e st h' with
  | ok v h1 => rw [q] at p; exact p
  | exc c vs h1 => rw [q] at p; exact fun m' H' e r => (p m' H' e r).elim
  | stk => rw [q] at p; exact p
theorem tEc_noE {Z : Ev} {EX : WX} {C : Calls} {e : Eo} {σ : L2.St} {H : Hp} {Q : Bool → Hp → Prop} (h : tEc Z noE C e σ H Q) : tEc Z EX C e σ H Q := by
  obtain ⟨m, st, h', rs, p⟩ := h
  refine ⟨m, st, h', rs, ?_⟩
  cases q : etc C e st h' with
  | ok v h1 => rw [q] at p; exact p
  | exc c vs h1 => rw [q] at p; exact fun m' H' e r => (p m' H' e r).elim
  | stk => rw [q] at p; exact p
def Trip (X : Cx) (Z : Ev) (EX : WX) (C : Calls) (e : E) (py : Expr) : Prop := PE X py (tE Z EX C e) ∧ PT X py (tT Z EX C e) ∧ ((∃ op vs p, py = .BoolOp op vs p) → PW X py (tT Z EX C e))
section
variable {X : Cx} {G : Tab} {ca : Nat → Addr} {CX : CXT} {EK : XK} {n : Nat} {k : Sc} {EX : WX} {C : Calls}
theorem trip {e : E} {py : Expr} (hp : PE X py (tE (zz X G.nm ca) EX C e)) (he : ∀ whole, isTrue py X.env whole = (do let v ← whole; standAt py.pos; holding [v] (truthy v)))
    (hq : ∀ st h, et C e st h = (ev C e st h).bind fun x h => ofO (truF h x) h) (nb : ¬ ∃ op vs p, py = .BoolOp op vs p) : Trip X (zz X G.nm ca) EX C e py := ⟨hp, pt_plain hp he hq, fun z => absurd z nb⟩
theorem Good.block {scope : Scope} {s : Shared} {H : Hp} {cl : List (Str × Addr)} {Ca : Addr} {fp : List Addr} (g : Good G ca CX EK n k X) :
    Good G ca CX (fun _ _ _ => False) n ⟨k.N, relS scope k.sc, fun x => scope.names.lookup x == some .cell⟩ (X.blk s H scope (compEnvC scope cl Ca X.env) fp) := by
  refine ⟨g.N, g.nd, ?_, fun x h => h, g.calm, g.room, g.lk, fun pins σ H s e s' _ h => g.lk.nox _ _ _ _ _ h⟩
  show relabel scope X.env = _
  show relS scope X.env.scope = _
  rw [g.sc]
end
section
variable {G : Tab} {ca : Nat → Addr} {CX : CXT}
mutual
theorem sE : ∀ (e : E) {k : Sc} {n : Nat} {X : Cx} {EK : XK} {py : Expr}, Good G ca CX EK n k X → chkE G k e py = true → Trip X (zz X G.nm ca) (exOf (zz X G.nm ca) EK) (callsN G n) e py
  | .var i, k, n, X, EK, py, g, h => by
    unfold chkE at h
    split at h
    · simp only [Bool.and_eq_true, decide_eq_true_eq] at h
      exact trip (s_var g.N g.sc h.1 h.2) (fun _ => rfl) (fun _ _ => rfl) (by rintro ⟨_, _, _, q⟩; cases q)
    · cases h
  | .non, k, n, X, EK, py, g, h => by
    unfold chkE at h
    split at h
    · exact trip (s_const (v := .non) pe_non (fun _ _ => rfl) fun _ _ => .non) (fun _ => rfl) (fun _ _ => rfl) (by rintro ⟨_, _, _, q⟩; cases q)
    · cases h
  | .tt b, k, n, X, EK, py, g, h => by
    unfold chkE at h
    split at h
    · rename_i c _ _
      obtain rfl : b = c := eq_of_beq h
      exact trip (s_const (v := .bl b) pe_bl (fun _ _ => rfl) fun _ _ => .bl b) (fun _ => rfl) (fun _ _ => rfl) (by rintro ⟨_, _, _, q⟩; cases q)
    · cases h
  | .int i, k, n, X, EK, py, g, h => by
    unfold chkE at h
    split at h
    · rename_i c _ _
      obtain rfl : i = c := of_decide_eq_true h
      exact trip (s_const (v := .int i) pe_int (fun _ _ => rfl) fun _ _ => .int i) (fun _ => rfl) (fun _ _ => rfl) (by rintro ⟨_, _, _, q⟩; cases q)
    · cases h
  | .str s, k, n, X, EK, py, g, h => by
    unfold chkE at h
    split at h
    · rename_i c _ _
      obtain rfl : mk s = c := of_decide_eq_true h
      exact trip (s_const (v := .str s) pe_str (fun _ _ => rfl) fun _ _ => .str s) (fun _ => rfl) (fun _ _ => rfl) (by rintro ⟨_, _, _, q⟩; cases q)
    · cases h
  | .glob i, k, n, X, EK, py, g, h => by
    unfold chkE at h
    split at h
    · simp only [Bool.and_eq_true, decide_eq_true_eq] at h
      exact trip (s_glob (v := .non) g rfl h.1 h.2) (fun _ => rfl) (fun _ _ => rfl) (by rintro ⟨_, _, _, q⟩; cases q)
    · cases h
  | .bin op a b, k, n, X, EK, py, g, h => by
    unfold chkE at h
    split at h
    · simp only [Bool.and_eq_true, decide_eq_true_eq] at h
      obtain ⟨⟨rfl, h1⟩, h2⟩ := h
      exact trip (s_bin (sE a g h1).1 (sE b g h2).1) (fun _ => rfl) (fun _ _ => rfl) (by rintro ⟨_, _, _, q⟩; cases q)
    · cases h
  | .neg a, k, n, X, EK, py, g, h => by
    unfold chkE at h
    split at h
    · exact trip (s_neg (sE a g h).1) (fun _ => rfl) (fun _ _ => rfl) (by rintro ⟨_, _, _, q⟩; cases q)
    · cases h
  | .not a, k, n, X, EK, py, g, h => by
    unfold chkE at h
    split at h
    · have ih := sE a g h
      exact ⟨s_not ih.1, st_not ih.2.1, by rintro ⟨_, _, _, q⟩; cases q⟩
    · cases h
  | .cmp op a b, k, n, X, EK, py, g, h => by
    unfold chkE at h
    split at h
    · simp only [Bool.and_eq_true, decide_eq_true_eq] at h
      obtain ⟨⟨⟨rfl, h1⟩, h2⟩, h3⟩ := h
      have ia := sE a g h1
      have ib := sE b g h2
      exact ⟨s_cmp g.hu ia.1 ib.1 h3, st_cmp g.hu ia.1 ib.1 h3, by rintro ⟨_, _, _, q⟩; cases q⟩
    · cases h
  | .chain op op2 a b c, k, n, X, EK, py, g, h => by
    unfold chkE at h
    split at h
    · simp only [Bool.and_eq_true, decide_eq_true_eq] at h
      obtain ⟨⟨⟨⟨⟨⟨rfl, rfl⟩, h1⟩, h2⟩, h3⟩, h4⟩, h5⟩ := h
      have ia := sE a g h1
      have ib := sE b g h2
      have ic := sE c g h3
      exact ⟨s_chain g.hu ia.1 ib.1 ic.1 h5, st_chain g.hu ia.1 ib.1 ic.1 h5, by rintro ⟨_, _, _, q⟩; cases q⟩
    · cases h
  | .chain3 op op2 op3 a b c d, k, n, X, EK, py, g, h => by
    unfold chkE at h
    split at h
    · simp only [Bool.and_eq_true, decide_eq_true_eq] at h
      obtain ⟨⟨⟨⟨⟨⟨⟨rfl, rfl⟩, rfl⟩, h1⟩, h2⟩, h3⟩, h4⟩, h5⟩ := h
      have ia := sE a g h1
      have ib := sE b g h2
      have ic := sE c g h3
      have id := sE d g h4
      exact ⟨s_chain3 g.hu ia.1 ib.1 ic.1 id.1 h5, st_chain3 g.hu ia.1 ib.1 ic.1 id.1 h5, by rintro ⟨_, _, _, q⟩; cases q⟩
    · cases h
  | .and a b, k, n, X, EK, py, g, h => by
    unfold chkE at h
    split at h
    · rename_i pos
      simp only [Bool.and_eq_true, decide_eq_true_eq] at h
      have ia := sE a g h.1
      have ib := sE b g h.2
      have w := st_and (pos := pos) ia.2.1 (pw_and1 ib.2.1)
      exact ⟨s_and ia.1 (pe_one ib.1), w.pt, fun _ => w⟩
    · simp only [Bool.and_eq_true, decide_eq_true_eq] at h
      have ia := sE a g h.1
      have ib := sE b g h.2
      have w := st_and ia.2.1 (ib.2.2 ⟨_, _, _, rfl⟩)
      exact ⟨s_and ia.1 ib.1, w.pt, fun _ => w⟩
    · cases h
  | .or a b, k, n, X, EK, py, g, h => by
    unfold chkE at h
    split at h
    · rename_i pos
      simp only [Bool.and_eq_true, decide_eq_true_eq] at h
      have ia := sE a g h.1
      have ib := sE b g h.2
      have w := st_or (pos := pos) ia.2.1 (pw_or1 ib.2.1)
      exact ⟨s_or ia.1 (pe_one ib.1), w.pt, fun _ => w⟩
    · simp only [Bool.and_eq_true, decide_eq_true_eq] at h
      have ia := sE a g h.1
      have ib := sE b g h.2
      have w := st_or ia.2.1 (ib.2.2 ⟨_, _, _, rfl⟩)
      exact ⟨s_or ia.1 ib.1, w.pt, fun _ => w⟩
    · cases h
  | .ife c a b, k, n, X, EK, py, g, h => by
    unfold chkE at h
    split at h
    · simp only [Bool.and_eq_true, decide_eq_true_eq] at h
      have ic := sE c g h.1.1
      have ia := sE a g h.1.2
      have ib := sE b g h.2
      exact ⟨s_ife ic.2.1 ia.1 ib.1, st_ife ic.2.1 ia.2.1 ib.2.1, by rintro ⟨_, _, _, q⟩; cases q⟩
    · cases h
  | .tup es, k, n, X, EK, py, g, h => by
    unfold chkE at h
    split at h
    · exact trip (s_tup (sEs es g h).1) (fun _ => rfl) (fun _ _ => rfl) (by rintro ⟨_, _, _, q⟩; cases q)
    · cases h
  | .lst es, k, n, X, EK, py, g, h => by
    unfold chkE at h
    split at h
    · exact trip (s_lst (sEs es g h).1) (fun _ => rfl) (fun _ _ => rfl) (by rintro ⟨_, _, _, q⟩; cases q)
    · cases h
  | .dic es, k, n, X, EK, py, g, h => by
    unfold chkE at h
    split at h
    · rename_i ks vs _
      simp only [Bool.and_eq_true, decide_eq_true_eq] at h
      obtain ⟨trs, t, pp, hall, h0⟩ := sD es (pos := _) g h.2
      cases ks with
      | nil =>
        cases vs with
        | nil =>
          obtain rfl := h0 rfl
          exact trip s_dic0 (fun _ => rfl) (fun _ _ => rfl) (by rintro ⟨_, _, _, q⟩; cases q)
        | cons _ _ => cases h.1.2
      | cons k0 kr => exact trip (s_dic t pp hall h.1.2 (by simp) h.1.1) (fun _ => rfl) (fun _ _ => rfl) (by rintro ⟨_, _, _, q⟩; cases q)
    · cases h
  | .call f es, k, n, X, EK, py, g, h => by
    unfold chkE at h
    split at h
    · rename_i x _ xs _
      simp only [Bool.and_eq_true] at h
      cases q : G.fns[f]? with
      | none => rw [q] at h; cases h.1.1
      | some d =>
        rw [q] at h
        simp only [Bool.and_eq_true, decide_eq_true_eq, Option.isNone_iff_eq_none] at h
        obtain ⟨a, b, c⟩ := sEs es g h.2
        exact trip (s_call g q h.1.1.1 h.1.1.2 h.1.2 a b c) (fun _ => rfl) (fun _ _ => rfl) (by rintro ⟨_, _, _, q⟩; cases q)
    · cases h
  | .new c es, k, n, X, EK, py, g, h => by
    unfold chkE at h
    split at h
    · rename_i x _ xs _
      simp only [Bool.and_eq_true] at h
      cases q : G.cls[c]? with
      | none => rw [q] at h; cases h.1.1
      | some d =>
        rw [q] at h
        simp only [Bool.and_eq_true, decide_eq_true_eq] at h
        obtain ⟨a, b, c⟩ := sEs es g h.2
        exact trip (s_new g q h.1.1.2 h.1.1.1 h.1.2 a b c) (fun _ => rfl) (fun _ _ => rfl) (by rintro ⟨_, _, _, q⟩; cases q)
    · cases h
  | .meth o m es, k, n, X, EK, py, g, h => by
    unfold chkE at h
    split at h
    · simp only [Bool.and_eq_true, decide_eq_true_eq] at h
      obtain ⟨⟨⟨⟨⟨h1, h2⟩, h3⟩, h4⟩, h5⟩, h6⟩ := h
      obtain ⟨a, b, c⟩ := sEs es g h3
      exact trip (s_meth g h1 (sE o g h2).1 a b c h4 h5 h6) (fun _ => rfl) (fun _ _ => rfl) (by rintro ⟨_, _, _, q⟩; cases q)
    · cases h
  | .prim p es, k, n, X, EK, py, g, h => by
    unfold chkE at h
    split at h
    · rename_i x _ xs _
      simp only [Bool.and_eq_true, decide_eq_true_eq] at h
      obtain ⟨⟨⟨h1, h2⟩, h3⟩, h4⟩ := h
      obtain ⟨a, b, c⟩ := sEs es g h3
      cases xs with
      | nil => cases h4
      | cons y ys => exact trip (s_prim g h1 h2 a b) (fun _ => rfl) (fun _ _ => rfl) (by rintro ⟨_, _, _, q⟩; cases q)
    · cases h
  | .pm p o es, k, n, X, EK, py, g, h => by
    unfold chkE at h
    split at h
    · simp only [Bool.and_eq_true, decide_eq_true_eq] at h
      obtain ⟨⟨⟨⟨⟨h1, h2⟩, h3⟩, h4⟩, h5⟩, h6⟩ := h
      obtain ⟨a, b, c⟩ := sEs es g h3
      exact trip (s_pm g.hu h1 (sE o g h2).1 a b c h4 h5 h6) (fun _ => rfl) (fun _ _ => rfl) (by rintro ⟨_, _, _, q⟩; cases q)
    · cases h
  | .fld o f, k, n, X, EK, py, g, h => by
    unfold chkE at h
    split at h
    · simp only [Bool.and_eq_true, decide_eq_true_eq] at h
      exact trip (s_fld h.1.1 (sE o g h.1.2).1 h.2) (fun _ => rfl) (fun _ _ => rfl) (by rintro ⟨_, _, _, q⟩; cases q)
    · cases h
  | .ix a b, k, n, X, EK, py, g, h => by
    unfold chkE at h
    split at h
    · simp only [Bool.and_eq_true, decide_eq_true_eq] at h
      exact trip (s_ix g.hu (sE a g h.1.1).1 (sE b g h.1.2).1 h.2) (fun _ => rfl) (fun _ _ => rfl) (by rintro ⟨_, _, _, q⟩; cases q)
    · cases h
  | .sl a lo hi, k, n, X, EK, py, g, h => by
    unfold chkE at h
    split at h
    · simp only [Bool.and_eq_true, decide_eq_true_eq] at h
      exact trip (s_sl (sE a g h.1.1).1 (sO lo g h.1.2) (sO hi g h.2)) (fun _ => rfl) (fun _ _ => rfl) (by rintro ⟨_, _, _, q⟩; cases q)
    · cases h
  | .lc elt tg it cond own, k, n, X, EK, py, g, h => by
    unfold chkE at h
    split at h
    · simp only [Bool.and_eq_true] at h
      obtain ⟨⟨⟨⟨⟨⟨h1, h2⟩, h3⟩, h4⟩, h5⟩, h6⟩, h7⟩ := h
      refine trip (pe_w (pe_lc (wi := tI (zz X G.nm ca) (exOf (zz X G.nm ca) EK) (callsN G n) it) (g := gOf X.K tg) (tt := tEc (zz X G.nm ca) noE (callsN G n) cond) (te := tE (zz X G.nm ca) noE (callsN G n) elt) g.calm (by rw [g.N]; exact g.nd) (sI it g h1) (by rw [g.N, g.sc]; exact blkOk_by h2)
        (fun s H Ca cl fp => pg_of (k := ⟨k.N, relS _ k.sc, _⟩) g.block.N g.nd g.block.sc g.block.fn g.calm h5)
        (fun s H Ca cl fp => pts_w (sC cond g.block h6) fun _ _ _ q => tEc_noE q) (fun s H Ca cl fp => pe_w (sE elt g.block h7).1 fun _ _ _ q => tE_noE q) (noset_fold h3)) fun σ H Q q => ?_) (fun _ => rfl) (fun _ _ => rfl) (by rintro ⟨_, _, _, q⟩; cases q)
      refine lc_ok (EX := exOf (zz X G.nm ca) EK) (fun j hj => ?_) ?_
      · have := List.all_eq_true.mp h4 j hj
        simp only [Bool.and_eq_true, List.contains_iff_mem] at this
        exact this.1
      · obtain ⟨m, st, h, rs, p⟩ := q
        rw [ev] at p
        exact ⟨m, st, h, rs, p⟩
    · cases h
  | .gix i e, k, n, X, EK, py, g, h => by
    unfold chkE at h
    split at h
    · simp only [Bool.and_eq_true, decide_eq_true_eq] at h
      obtain ⟨⟨⟨⟨⟨⟨h1, h2⟩, h3⟩, h4⟩, h5⟩, h6⟩, h7⟩ := h
      subst h4
      exact trip (s_gix g rfl h1 h2 h3 (sE e g h5).1 h6 h7) (fun _ => rfl) (fun _ _ => rfl) (by rintro ⟨_, _, _, q⟩; cases q)
    · cases h
  | .isi e t, k, n, X, EK, py, g, h => by
    unfold chkE at h
    split at h
    · simp only [Bool.and_eq_true, decide_eq_true_eq] at h
      obtain ⟨⟨⟨⟨⟨h1, h2⟩, h3⟩, h4⟩, h5⟩, h6⟩ := h
      exact trip (s_isi g h1 h2 (sE e g h3).1 h4 h5 h6) (fun _ => rfl) (fun _ _ => rfl) (by rintro ⟨_, _, _, q⟩; cases q)
    · cases h
  | .catR a o yz, k, n, X, EK, py, g, h => by
    unfold chkE at h
    split at h
    · simp only [Bool.and_eq_true, Bool.not_eq_true'] at h
      obtain ⟨⟨⟨h1, h2⟩, h3⟩, h4⟩ := h
      have ha : ∀ (b : E) (s : List Nat) (y : Expr), a = .bin .Add b (.str s) → chkE G k b y = true → PE X y (tE (zz X G.nm ca) (exOf (zz X G.nm ca) EK) (callsN G n) b) := fun b s y e hb => (sE b g hb).1
      exact trip (s_catR (pek_tok h2 h1 ha) (fun py hc => (sE o g hc).1) h3 (fun z => by rw [z] at h4; cases h4)) (fun _ => rfl) (fun _ _ => rfl) (by rintro ⟨_, _, _, q⟩; cases q)
    · cases h
  | .fmt e w, k, n, X, EK, py, g, h => by
    unfold chkE at h
    split at h
    · simp only [Bool.and_eq_true, decide_eq_true_eq] at h
      obtain ⟨⟨rfl, rfl⟩, h3⟩ := h
      exact trip (s_fmt0 (sE e g h3).1) (fun _ => rfl) (fun _ _ => rfl) (by rintro ⟨_, _, _, q⟩; cases q)
    · simp only [Bool.and_eq_true, decide_eq_true_eq] at h
      obtain ⟨⟨⟨⟨rfl, h1⟩, h2⟩, rfl⟩, h3⟩ := h
      exact trip (s_fmtW h1 h2 (sE e g h3).1) (fun _ => rfl) (fun _ _ => rfl) (by rintro ⟨_, _, _, q⟩; cases q)
    · cases h
  | .js es, k, n, X, EK, py, g, h => by
    unfold chkE at h
    split at h
    · exact trip (s_js (sJ es g h)) (fun _ => rfl) (fun _ _ => rfl) (by rintro ⟨_, _, _, q⟩; cases q)
    · cases h
  | .maxD a d, k, n, X, EK, py, g, h => by
    unfold chkE at h
    split at h
    · simp only [Bool.and_eq_true, decide_eq_true_eq] at h
      obtain ⟨⟨⟨⟨⟨h1, h2⟩, h3⟩, h4⟩, h5⟩, h6⟩ := h
      exact trip (s_maxD g h1 h2 h3 (sE a g h4).1 h5 (sE d g h6).1) (fun _ => rfl) (fun _ _ => rfl) (by rintro ⟨_, _, _, q⟩; cases q)
    · cases h
  | .gdct x kvs d e, k, n, X, EK, py, g, h => by
    unfold chkE at h
    simp only [Bool.and_eq_true, decide_eq_true_eq] at h
    obtain ⟨⟨h1, h2⟩, h⟩ := h
    split at h
    · simp only [Bool.and_eq_true, decide_eq_true_eq] at h
      obtain ⟨⟨⟨⟨⟨rfl, h3⟩, h4⟩, h5⟩, rfl⟩, h6⟩ := h
      exact trip (s_gget g h1 h2 h3 (sE e g h4).1 h5 pe_int rfl h6) (fun _ => rfl) (fun _ _ => rfl) (by rintro ⟨_, _, _, q⟩; cases q)
    · simp only [Bool.and_eq_true, decide_eq_true_eq] at h
      obtain ⟨⟨rfl, h3⟩, h4⟩ := h
      exact trip (s_gdix g h1 h2 (sE e g h3).1 h4) (fun _ => rfl) (fun _ _ => rfl) (by rintro ⟨_, _, _, q⟩; cases q)
    · cases h
  | .rlst a b, k, n, X, EK, py, g, h => by
    unfold chkE at h
    split at h
    · simp only [Bool.and_eq_true, decide_eq_true_eq] at h
      obtain ⟨⟨⟨⟨⟨⟨⟨h1, h2⟩, h3⟩, h4⟩, h5⟩, h6⟩, h7⟩, h8⟩ := h
      exact trip (s_rlst g h1 h2 h3 h4 (sE a g h5).1 h6 (sE b g h7).1 h8) (fun _ => rfl) (fun _ _ => rfl) (by rintro ⟨_, _, _, q⟩; cases q)
    · cases h
theorem sJ : ∀ (es : Es) {k : Sc} {n : Nat} {X : Cx} {EK : XK} {xs : List Expr}, Good G ca CX EK n k X → chkEs G k es xs = true → PJE X (zz X G.nm ca) (exOf (zz X G.nm ca) EK) (callsN G n) xs es
  | .nil, k, n, X, EK, xs, g, h => by
    unfold chkEs at h
    cases xs with
    | nil => exact .nil
    | cons _ _ => cases h
  | .cons e es, k, n, X, EK, xs, g, h => by
    unfold chkEs at h
    cases xs with
    | nil => cases h
    | cons x r =>
      simp only [Bool.and_eq_true] at h
      exact .cons (sE e g h.1.1).1 (sJ es g h.2)
theorem sEs : ∀ (es : Es) {k : Sc} {n : Nat} {X : Cx} {EK : XK} {xs : List Expr}, Good G ca CX EK n k X → chkEs G k es xs = true →
    PA X xs (tEs (zz X G.nm ca) (exOf (zz X G.nm ca) EK) (callsN G n) es) ∧ xs.all notStar = true ∧ (xs = [] → es = .nil)
  | .nil, k, n, X, EK, xs, g, h => by
    unfold chkEs at h
    cases xs with
    | nil => exact ⟨s_nil, rfl, fun _ => rfl⟩
    | cons _ _ => cases h
  | .cons e es, k, n, X, EK, xs, g, h => by
    unfold chkEs at h
    cases xs with
    | nil => cases h
    | cons x r =>
      simp only [Bool.and_eq_true] at h
      obtain ⟨a, b, c⟩ := sEs es g h.2
      exact ⟨s_cons (sE e g h.1.1).1 a h.1.2, by rw [List.all_cons, h.1.2, b]; rfl, fun q => by cases q⟩
theorem sD : ∀ (es : Es) {k : Sc} {n : Nat} {X : Cx} {EK : XK} {ks : List (Option Expr)} {vs : List Expr} {pos : Pos}, Good G ca CX EK n k X → chkD G k es ks vs = true →
    ∃ trs, Trs (zz X G.nm ca) (exOf (zz X G.nm ca) EK) (callsN G n) es trs ∧ PPs X pos ks vs trs ∧ ks.all (·.isSome) = true ∧ (ks = [] → es = .nil)
  | .nil, k, n, X, EK, ks, vs, pos, g, h => by
    unfold chkD at h
    simp only [Bool.and_eq_true, List.isEmpty_iff] at h
    obtain ⟨rfl, rfl⟩ := h
    exact ⟨[], .nil, pps_nil, rfl, fun _ => rfl⟩
  | .cons e .nil, k, n, X, EK, ks, vs, pos, g, h => by
    unfold chkD at h
    cases h
  | .cons e (.cons e2 es2), k, n, X, EK, ks, vs, pos, g, h => by
    unfold chkD at h
    dsimp only at h
    split at h
    · rename_i x ks y vs
      simp only [Bool.and_eq_true] at h
      obtain ⟨trs, t, pp, hall, _⟩ := sD es2 (pos := pos) g h.2
      exact ⟨_, .cons t, pps_cons (sE e g h.1.1).1 (sE e2 g h.1.2).1 pp, by rw [List.all_cons, hall]; rfl, fun q => by cases q⟩
    · cases h
theorem sO : ∀ (e : Eo) {k : Sc} {n : Nat} {X : Cx} {EK : XK} {x : Option Expr}, Good G ca CX EK n k X → chkO G k e x = true → PO X x (tEo (zz X G.nm ca) (exOf (zz X G.nm ca) EK) (callsN G n) e)
  | .none, k, n, X, EK, x, g, h => by
    unfold chkO at h
    cases x with
    | none => exact s_po_none
    | some _ => cases h
  | .some e, k, n, X, EK, x, g, h => by
    unfold chkO at h
    cases x with
    | none => cases h
    | some x => exact s_po_some (sE e g h).1
theorem sC : ∀ (e : Eo) {k : Sc} {n : Nat} {X : Cx} {EK : XK} {xs : List Expr}, Good G ca CX EK n k X → chkC G k e xs = true → PTs X xs (tEc (zz X G.nm ca) (exOf (zz X G.nm ca) EK) (callsN G n) e)
  | .none, k, n, X, EK, xs, g, h => by
    unfold chkC at h
    cases xs with
    | nil => exact c_none
    | cons _ _ => cases h
  | .some e, k, n, X, EK, xs, g, h => by
    unfold chkC at h
    split at h
    · exact c_some (sE e g h).2.1
    · cases h
theorem sI : ∀ (i : I) {k : Sc} {n : Nat} {X : Cx} {EK : XK} {tg : Tg} {py t : Expr}, Good G ca CX EK n k X → chkI G k tg i py t = true → PI X t py (tI (zz X G.nm ca) (exOf (zz X G.nm ca) EK) (callsN G n) i)
  | .val e, k, n, X, EK, tg, py, t, g, h => by
    unfold chkI at h
    exact i_val (sE e g h).1
  | .rng1 a, k, n, X, EK, tg, py, t, g, h => by
    unfold chkI at h
    split at h
    · simp only [Bool.and_eq_true, decide_eq_true_eq] at h
      exact i_rng1 g h.1.1.1 h.1.1.2 (sE a g h.1.2).1 h.2
    · cases h
  | .rng2 a b, k, n, X, EK, tg, py, t, g, h => by
    unfold chkI at h
    split at h
    · simp only [Bool.and_eq_true, decide_eq_true_eq] at h
      obtain ⟨⟨⟨⟨⟨h1, h2⟩, h3⟩, h4⟩, h5⟩, h6⟩ := h
      exact i_rng2 g h1 h2 (sE a g h3).1 (sE b g h5).1 h4 h6
    · cases h
  | .rng3 a b c, k, n, X, EK, tg, py, t, g, h => by
    unfold chkI at h
    split at h
    · simp only [Bool.and_eq_true, decide_eq_true_eq] at h
      obtain ⟨⟨⟨⟨⟨⟨⟨h1, h2⟩, h3⟩, h4⟩, h5⟩, h6⟩, h7⟩, h8⟩ := h
      exact i_rng3 g h1 h2 (sE a g h3).1 (sE b g h5).1 (sE c g h7).1 h4 h6 h8
    · cases h
  | .enu a, k, n, X, EK, tg, py, t, g, h => by
    unfold chkI at h
    split at h
    · simp only [Bool.and_eq_true, decide_eq_true_eq] at h
      obtain ⟨⟨⟨⟨h1, h2⟩, h3⟩, h4⟩, h5⟩ := h
      cases t <;> first
        | (exact Bool.noConfusion h5)
        | exact i_enu g h1 h2 (sE a g h3).1 h4
    · cases h
end
end
end MP

set_option Elab.async false
set_option linter.all false
set_option maxRecDepth 100000
set_option maxHeartbeats 4000000
set_option autoImplicit false
/-! MPn: operations in place; readings of statements. -/
namespace MP
open PySem PySem.Spec L2
open PyProof.Rows hiding St
section
variable {X : Cx} {nm : List Str} {ca : Nat → Addr}
theorem op_ip (op : Operator) : OpR X (inplaceOp op) (rBin (zz X nm ca) (ipF op)) := by
  intro pins s σ H x y v u Q I rx ry hq
  obtain ⟨m, h, a, b, r, ra, rb, p⟩ := hq
  cases op with
  | Add =>
    cases ra with
    | int i =>
      cases rb with
      | int j => exact iop_add pins s σ H _ _ v u Q I rx ry ⟨i, j, rfl, rfl, p.of r (.int _)⟩
      | _ => exact False.elim p
    | str i =>
      cases rb with
      | str j =>
        simp only [ipF] at p
        split at p
        · rename_i hl
          refine iop_add_str pins s σ H _ _ v u Q I rx ry ⟨mk i, mk j, rfl, rfl, by rw [mk_len, mk_len, lim_eq]; exact hl, ?_⟩
          have e : mk i ++ mk j = mk (i ++ j) := by
            show (⟨_⟩ : Str) = ⟨_⟩
            simp [mk]
          rw [e]
          exact p.of r (.str _)
        · exact False.elim p
      | _ => exact False.elim p
    | @ref n a hn =>
      cases rb with
      | @ref n2 b hn2 =>
        simp only [ipF] at p
        split at p
        · rename_i vs ws e1 e2
          obtain ⟨xs, z1, z2⟩ := r.lst hn e1
          obtain ⟨ys, z3, z4⟩ := r.lst hn2 e2
          split at p
          · rename_i hl
            refine iop_ext pins s σ H _ _ v u Q I rx ry ⟨a, b, xs, ys, rfl, rfl, z1, z3, by rw [← z2.len, ← z4.len, lim_eq]; exact hl, ?_⟩
            exact Post.set p r (.ref hn) hn e1 rfl rfl z1 (fun _ z => by cases z) (fun _ _ z => by cases z) ⟨_, upd_same, RVs.mono (ext_lst z1) _ _ (z2.append z4)⟩
          · exact False.elim p
        · exact False.elim p
      | _ => exact False.elim p
    | _ => exact False.elim p
  | Sub =>
    cases ra with
    | int i =>
      cases rb with
      | int j => exact iop_sub pins s σ H _ _ v u Q I rx ry ⟨i, j, rfl, rfl, p.of r (.int _)⟩
      | _ => exact False.elim p
    | _ => exact False.elim p
  | Mult =>
    cases ra with
    | int i =>
      cases rb with
      | int j =>
        simp only [ipF] at p
        split at p
        · rename_i hc; exact iop_mul pins s σ H _ _ v u Q I rx ry ⟨i, j, rfl, rfl, hc, p.of r (.int _)⟩
        · exact False.elim p
      | _ => exact False.elim p
    | _ => exact False.elim p
  | FloorDiv =>
    cases ra with
    | int i =>
      cases rb with
      | int j =>
        simp only [ipF] at p
        split at p
        · rename_i hc; exact iop_fdivW pins s σ H _ _ v u Q I rx ry ⟨i, j, rfl, rfl, hc, p.of r (.int _)⟩
        · exact False.elim p
      | _ => exact False.elim p
    | _ => exact False.elim p
  | Mod =>
    cases ra with
    | int i =>
      cases rb with
      | int j =>
        simp only [ipF] at p
        split at p
        · rename_i hc; exact iop_mod pins s σ H _ _ v u Q I rx ry ⟨i, j, rfl, rfl, hc, p.of r (.int _)⟩
        · exact False.elim p
      | _ => exact False.elim p
    | _ => exact False.elim p
  | LShift =>
    cases ra with
    | int i =>
      cases rb with
      | int j =>
        simp only [ipF] at p
        split at p
        · rename_i hc; exact iop_shl pins s σ H _ _ v u Q I rx ry ⟨i, j, rfl, rfl, hc, p.of r (.int _)⟩
        · exact False.elim p
      | _ => exact False.elim p
    | _ => exact False.elim p
  | RShift =>
    cases ra with
    | int i =>
      cases rb with
      | int j =>
        simp only [ipF] at p
        split at p
        · rename_i hc; exact iop_shr pins s σ H _ _ v u Q I rx ry ⟨i, j, rfl, rfl, hc, p.of r (.int _)⟩
        · exact False.elim p
      | _ => exact False.elim p
    | _ => exact False.elim p
  | BitAnd =>
    cases ra with
    | int i =>
      cases rb with
      | int j => exact iop_and pins s σ H _ _ v u Q I rx ry ⟨i, j, rfl, rfl, p.of r (.int _)⟩
      | _ => exact False.elim p
    | _ => exact False.elim p
  | BitOr =>
    cases ra with
    | int i =>
      cases rb with
      | int j => exact iop_or pins s σ H _ _ v u Q I rx ry ⟨i, j, rfl, rfl, p.of r (.int _)⟩
      | _ => exact False.elim p
    | _ => exact False.elim p
  | BitXor =>
    cases ra with
    | int i =>
      cases rb with
      | int j => exact iop_xor pins s σ H _ _ v u Q I rx ry ⟨i, j, rfl, rfl, p.of r (.int _)⟩
      | _ => exact False.elim p
    | _ => exact False.elim p
  | _ => exact False.elim p
theorem get_S (hu : X.A.units + 1 < cLine) : PGet X (rBin (zz X nm ca) gtF) := by
  intro pins s σ H x y v u Q I rx ry hq
  obtain ⟨m, h, a, b, r, ra, rb, p⟩ := hq
  cases ra with
  | @ref n t hn =>
    simp only [gtF] at p
    split at p
    · rename_i vs e1
      cases rb with
      | int i =>
        simp only [ixL] at p
        cases e : atI vs i with
        | none => rw [e] at p; exact False.elim p
        | some w =>
          rw [e] at p
          obtain ⟨xs, z1, z2⟩ := r.lst hn e1
          obtain ⟨y', z3, z4⟩ := atI_rvs z2 e
          cases rx
          obtain ⟨tk, rfl⟩ := ry
          obtain ⟨its, rr, pl, hz⟩ := I.list (SqL.of z1)
          obtain ⟨j, h1, h2, h3, h4, h5⟩ := atI_get z3
          obtain ⟨w', ew, rw'⟩ := rr.get h2
          have hl := rr.length
          have hnn := line63
          have fin : EP X pins σ Q w' s := ⟨y', H, I, rw', p.of r z4⟩
          by_cases h0 : 0 ≤ i
          · have hj : i.toNat = j := by
              rw [seqIndex_of h0 h5] at h1
              exact Option.some.inj h1
            exact wpAny_getItem_list pl.isList h0 (by omega) (by rw [hj]; simpa using ew) fin
          · have hj : (i + (its.toArray.size : Int)).toNat = j := by
              rw [seqIndex_neg (by omega) h4] at h1
              rw [List.size_toArray, ← hl]
              exact Option.some.inj h1
            exact wpAny_getItem_list_neg pl.isList (by omega) (by rw [List.size_toArray] <;> omega) (by omega) (by rw [hj]; simpa using ew) fin
      | _ => exact False.elim p
    · rename_i kvs e1
      split at p
      · rename_i k ek
        cases e : dget kvs k with
        | none => rw [e] at p; exact False.elim p
        | some w =>
          rw [e] at p
          obtain ⟨kxs, z1, z2⟩ := r.dct hn e1
          obtain ⟨xv, z3, z4⟩ := (z2.get k).1 w e
          have hy := toKy_rv rb ek
          cases rx
          exact d_getItem hu I (.inl ⟨kxs, kyK k, .inl z1, hy, z3.symm⟩) ry fun w' s' I' rw' => ⟨xv, H, I', rw', p.of r z4⟩
      · exact False.elim p
    · exact False.elim p
  | _ => exact False.elim p
end
theorem pure_ipF (op : Operator) (a b : Val) (h : Hs) : (ipF op a b h).pure := by
  unfold ipF
  repeat' first
    | exact pure_ok _ _
    | exact pure_stk
    | split
theorem pure_gtF (a b : Val) (h : Hs) : (gtF a b h).pure := by
  unfold gtF
  repeat' first
    | exact pure_stk
    | exact pure_ixL _ _ _
    | exact pure_ofO _ _
    | split

/-! ### readings of statements -/
def PostO (Z : Ev) (EX : WX) (m : List Addr) (H : Hp) (o : O) (D : Ends) (n : Nat) : Prop := match o with
  | .nx st h => ∀ m' H' σ, Ext m H m' H' → RepS Z m' st h σ H' → D.nx σ H'
  | .rt v h => ∀ m' H' x, Ext m H m' H' → Rep Z m' h H' → RV Z.K m' H' v x → D.rt x H'
  | .bk st h => ∀ m' H' σ, Ext m H m' H' → RepS Z m' st h σ H' → D.bk σ H'
  | .ct st h => ∀ m' H' σ, Ext m H m' H' → RepS Z m' st h σ H' → D.ct σ H'
  | .exc c vs h => ∀ m' H', Ext m H m' H' → Rep Z m' h H' → EX c vs m' h H'
  | .stk => False
def tS (Z : Ev) (EX : WX) (C : Calls) (s : S) : TS := fun D σ H => ∃ m st h, RepS Z m st h σ H ∧ PostO Z EX m H (ex C s st h) D 0
def tSs (Z : Ev) (EX : WX) (C : Calls) (ss : Ss) : TS := fun D σ H => ∃ m st h, RepS Z m st h σ H ∧ PostO Z EX m H (exs C ss st h) D 0
section
variable {Z : Ev} {EX : WX} {C : Calls} {m m1 : List Addr} {h : Hs} {H H1 : Hp} {st : Sl} {σ : St} {D : Ends} {n : Nat}
theorem PostO.mono {o : O} (p : PostO Z EX m H o D n) (e : Ext m H m1 H1) : PostO Z EX m1 H1 o D n := by
  cases o with
  | nx st h => exact fun m' H' σ e' => p m' H' σ (e.trans e')
  | rt v h => exact fun m' H' x e' => p m' H' x (e.trans e')
  | bk st h => exact fun m' H' σ e' => p m' H' σ (e.trans e')
  | ct st h => exact fun m' H' σ e' => p m' H' σ (e.trans e')
  | exc c vs h => exact fun m' H' e' => p m' H' (e.trans e')
  | stk => exact p
theorem PostO.nx {st : Sl} {h : Hs} (p : PostO Z EX m H (.nx st h) D n) (r : RepS Z m st h σ H) : D.nx σ H := p m H σ (Ext.refl _ _) r
theorem oE {e : E} {f : Val → Hs → O} (rs : RepS Z m st h σ H) (p : PostO Z EX m H ((ev C e st h).st f) D n) {K : VK}
    (k : ∀ m1 H1 x v h1, Ext m H m1 H1 → RepS Z m1 st h1 σ H1 → RV Z.K m1 H1 v x → PostO Z EX m1 H1 (f v h1) D n → K x H1) : tE Z EX C e σ H K := by
  refine ⟨m, st, h, rs, ?_⟩
  cases q : ev C e st h with
  | ok v h1 => rw [q] at p; exact fun m' H' ex r x rv => k m' H' x v h1 ex (rs.mono ex r) rv (PostO.mono (o := f v h1) p ex)
  | exc c vs h1 => rw [q] at p; exact p
  | stk => rw [q] at p; exact p
theorem oT {e : E} {f : Bool → Hs → O} (rs : RepS Z m st h σ H) (p : PostO Z EX m H ((et C e st h).st f) D n) {K : Bool → Hp → Prop}
    (k : ∀ m1 H1 b h1, Ext m H m1 H1 → RepS Z m1 st h1 σ H1 → PostO Z EX m1 H1 (f b h1) D n → K b H1) : tT Z EX C e σ H K := by
  refine ⟨m, st, h, rs, ?_⟩
  cases q : et C e st h with
  | ok v h1 => rw [q] at p; exact fun m' H' ex r => k m' H' v h1 ex (rs.mono ex r) (PostO.mono (o := f v h1) p ex)
  | exc c vs h1 => rw [q] at p; exact p
  | stk => rw [q] at p; exact p
theorem oI {i : I} {f : Src → Hs → O} (rs : RepS Z m st h σ H) (p : PostO Z EX m H ((evi C i st h).st f) D n) {K : It → Hp → Prop}
    (k : ∀ m1 H1 J src h1, Ext m H m1 H1 → RepS Z m1 st h1 σ H1 → JR Z m1 H1 src J → PostO Z EX m1 H1 (f src h1) D n → K J H1) : tI Z EX C i σ H K := by
  refine ⟨m, st, h, rs, ?_⟩
  cases q : evi C i st h with
  | ok v h1 => rw [q] at p; exact fun m' H' ex r J jr => k m' H' J v h1 ex (rs.mono ex r) jr (PostO.mono (o := f v h1) p ex)
  | exc c vs h1 => rw [q] at p; exact p
  | stk => rw [q] at p; exact p
/-- an operation -/
theorem oP {r : R Val} {f : Val → Hs → O} {K : VK} (hp : r.pure) (p : PostO Z EX m H (r.st f) D n)
    (k : ∀ m1 H1 x v h1, r = .ok v h1 → Ext m H m1 H1 → Rep Z m1 h1 H1 → RV Z.K m1 H1 v x → PostO Z EX m1 H1 (f v h1) D n → K x H1) : Post Z m H r K := by
  cases r with
  | ok v h1 => exact fun m' H' x e r rv => k m' H' x v h1 rfl e r rv (PostO.mono (o := f v h1) p e)
  | exc c vs h1 => exact absurd rfl (hp c vs h1)
  | stk => exact p
/-- a store's end -/
theorem oH {o : Option Hs} {st : Sl} (p : PostO Z EX m H (nxO o st) D n) (rs : RepS Z m st h σ H) : PostH Z m H o (D.nx σ) := by
  cases o with
  | none => exact p
  | some h1 => exact fun m' H' e r => p m' H' σ e (rs.mono e r)
theorem seq_ok {s : S} {ss : Ss} (p : PostO Z EX m H ((ex C s st h).then (exs C ss)) D n) (hn : n = 0) : PostO Z EX m H (ex C s st h) { D with nx := tSs Z EX C ss D } n := by
  subst hn
  cases q : ex C s st h with
  | nx st1 h1 => rw [q] at p; exact fun m' H' σ' e r => ⟨m', st1, h1, r, PostO.mono (o := exs C ss st1 h1) p e⟩
  | rt v h1 => rw [q] at p; exact p
  | bk _ _ => rw [q] at p; exact p
  | ct _ _ => rw [q] at p; exact p
  | exc _ _ _ => rw [q] at p; exact p
  | stk => rw [q] at p; exact p
end
end MP

set_option Elab.async false
set_option linter.all false
set_option maxRecDepth 100000
set_option maxHeartbeats 4000000
set_option autoImplicit false
/-! MPo: every statement that the check lets through. -/
namespace MP
open PySem PySem.Spec L2
open PyProof.Rows hiding St

def notComp : Expr → Bool
  | .ListComp _ _ _ _ => false
  | .SetComp _ _ _ _ => false
  | .DictComp _ _ _ _ _ => false
  | _ => true
def notTup : Expr → Bool
  | .Tuple _ _ _ => false
  | _ => true
/-- a, b = x, y -/
def parB (G : Tab) (k : Sc) (js : List Nat) (e : E) (st : Stmt) : Bool := match js, e, st with
  | [i, j], .tup es, .Assign [.Tuple [.Name x px, .Name y py] _ _] (.Tuple [a, b] _ _) _ => decide (k.N[i]? = some x) && decide (k.N[j]? = some y) && decide (x ≠ y) && decide (k.sc.names.lookup x = some .local) && decide (k.sc.names.lookup y = some .local) && (py.line == px.line) && chkEs G k es [a, b] && !([a, b].all (foldedForSure 8)) && !([a, b].all (constantsAlone 8))
  | [i, j, l], .tup es, .Assign [.Tuple [.Name x px, .Name y py, .Name z pz] _ _] (.Tuple [a, b, c] _ _) _ => decide (k.N[i]? = some x) && decide (k.N[j]? = some y) && decide (k.N[l]? = some z) && decide (x ≠ y) && decide (x ≠ z) && decide (y ≠ z) && decide (k.sc.names.lookup x = some .local) && decide (k.sc.names.lookup y = some .local) && decide (k.sc.names.lookup z = some .local) && (py.line == px.line) && (pz.line == px.line) && chkEs G k es [a, b, c] && !([a, b, c].all (foldedForSure 8)) && !([a, b, c].all (constantsAlone 8))
  | _, _, _ => false
/-- the store of a comprehension's list is made ahead of the block's end -/
def swB (k : Sc) (x : Str) (l vl : Nat) (scope : Scope) : Bool := decide (k.sc.names.lookup x = some .local) && (l == vl) && !(scope.names.any fun (n, k) => n == x && (k == .local || k == .cell))
mutual
def chkS (G : Tab) (k : Sc) : S → Stmt → Bool
  | .expr e, py => (match py with
    | .Expr v _ => chkE G k e v && notComp v
    | _ => false)
  | .asg t e, py => (match t with
    | .nm i => (match py with
      | .Assign [.Name x _] v _ => chkE G k e v && decide (k.N[i]? = some x) && locB k x && notComp v
      | _ => false) || (match e, py with
        | .lc elt tg it cond own, .Assign [.Name x px] (.ListComp ee [⟨tt, ii, ifs, 0⟩] scope pos) _ => decide (k.N[i]? = some x) && swB k x px.line pos.line scope && chkE G k (.lc elt tg it cond own) (.ListComp ee [⟨tt, ii, ifs, 0⟩] scope pos)
        | _, _ => false) || (match py with
      | .Assign [.Name x px] (.ListComp ee gs scope pos) _ => chkE G k e (.ListComp ee gs scope pos) && decide (k.N[i]? = some x) && locB k x && !swB k x px.line pos.line scope
      | _ => false)
    | .tup js => (match py with
      | .Assign [.Tuple es kk tp] v _ => chkE G k e v && chkT k (.tup js) (.Tuple es kk tp) && notTup v
      | _ => false) || parB G k js e py)
  | .fld o f e, py => (match py with
    | .Assign [.Attribute y g _] v _ => decide (G.nm[f]? = some g) && chkE G k o y && chkE G k e v
    | _ => false)
  | .sub o i e, py => (match py with
    | .Assign [.Subscript y z _] v _ => chkE G k o y && chkE G k i z && chkE G k e v && notSlice z
    | _ => false)
  | .aug i op e, py => (match py with
    | .AugAssign (.Name x _) o v _ => decide (op = o) && decide (k.N[i]? = some x) && locB k x && chkE G k e v
    | _ => false)
  | .augF o f op e, py => (match py with
    | .AugAssign (.Attribute y g _) oo v _ => decide (op = oo) && decide (G.nm[f]? = some g) && chkE G k o y && chkE G k e v
    | _ => false)
  | .augS o i op e, py => (match py with
    | .AugAssign (.Subscript y z _) oo v _ => decide (op = oo) && chkE G k o y && chkE G k i z && chkE G k e v && notSlice z
    | _ => false)
  | .del o i, py => (match py with
    | .Delete [.Subscript y z _] _ => chkE G k o y && chkE G k i z
    | _ => false)
  | .ifs c a b, py => (match py with
    | .If t x y _ => chkE G k c t && chkSs G k a x && chkSs G k b y
    | _ => false)
  | .fors t it body, py => (match py with
    | .For tg iter bd [] _ => chkI G k t it iter tg && chkT k t tg && notSet iter && chkSs G k body bd
    | _ => false)
  | .whil c body, py => (match py with
    | .While t bd [] _ => chkE G k c t && chkSs G k body bd
    | _ => false)
  | .ret e, py => (match py with
    | .Return (some v) _ => chkE G k e v
    | _ => false)
  | .retN, py => (match py with
    | .Return none _ => true
    | _ => false)
  | .brk, py => (match py with
    | .Break _ => true
    | _ => false)
  | .cont, py => (match py with
    | .Continue _ => true
    | _ => false)
  | .nev, _ => true
  | .rais c es, py => (match py with
    | .Raise (some (.Call (.Name x _) (y :: ys) [] _)) none _ => decide (x = xName c) && glB k x && (G.excs.map (·.1)).contains c && decide (c < 2) && chkEs G k es (y :: ys)
    | _ => false)
  | .try2 body i, py => (match py with
    | .Try bd [.ExceptHandler (some (.Name x _)) (some n) [.Return (some (.Tuple [.Attribute (.Name z1 _) f1 _, .Attribute (.Name z2 _) f2 _] _ _)) _] _] [] [] _ => decide (x = xName 0) && glB k x && (G.excs.map (·.1)).contains 0 && decide (k.N[i]? = some n) &&
      decide (k.sc.names.lookup n = some .local) && !(n == ("__debug__" : Str)) && !(n == ("__classdict__" : Str)) && decide (z1 = n) && decide (z2 = n) && decide (f1 = ("word" : Str)) && decide (f2 = ("at" : Str)) && chkSs G k body bd
    | _ => false)
  | .pass, py => (match py with
    | .Pass _ => true
    | .Expr (.Constant (.str _) _ _) _ => true
    | _ => false)
def chkSs (G : Tab) (k : Sc) : Ss → List Stmt → Bool
  | .nil, py => py.isEmpty
  | .cons s ss, py => (match py with
    | p :: r => chkS G k s p && chkSs G k ss r
    | [] => false)
end
theorem sw_nm {v : Expr} {x : Str} {p : Pos} {l : Nat} {env : Env} (h : notComp v = true) : swapsWith v (some (.Name x p)) l env = pure false := by
  cases v <;> first | rfl | (exact Bool.noConfusion h)
theorem sw_false {elt : Expr} {gs : List Comprehension} {scope : Scope} {pos px : Pos} {x : Str} {l : Nat} {env : Env} {k : Sc} (hs : env.scope = k.sc) (h : swB k x px.line pos.line scope = false) :
    swapsWith (.ListComp elt gs scope pos) (some (.Name x px)) l env = pure false := by
  have e : (env.blockKind == .function && env.kindOf x == some .local && px.line == pos.line && !(scope.names.any fun (n, k) => n == x && (k == .local || k == .cell))) = false := by
    unfold swB at h
    have hk : env.kindOf x = k.sc.names.lookup x := by rw [← hs]; rfl
    rw [hk]
    by_cases hq : k.sc.names.lookup x = some .local
    · rw [decide_eq_true hq, Bool.true_and] at h
      rw [Bool.and_assoc _ (px.line == pos.line) _, h, Bool.and_false]
    · have : (k.sc.names.lookup x == some NameKind.local) = false := by
        cases q : k.sc.names.lookup x with
        | none => rfl
        | some w => cases w <;> first | exact absurd q hq | rfl
      rw [this, Bool.and_false, Bool.false_and, Bool.false_and]
  unfold swapsWith
  show (pure (env.blockKind == .function && env.kindOf x == some .local && px.line == pos.line && !(scope.names.any fun (n, k) => n == x && (k == .local || k == .cell))) : Sem Bool) = _
  rw [e]
theorem sw_none {v : Expr} {l : Nat} {env : Env} (h : notComp v = true) : swapsWith v none l env = pure false := by
  cases v <;> first | rfl | (exact Bool.noConfusion h)
theorem sw_fld {v o : Expr} {f : Str} {p : Pos} {l : Nat} {env : Env} : swapsWith v (some (.Attribute o f p)) l env = pure false := by
  cases v <;> rfl
theorem sw_sub {v o i : Expr} {p : Pos} {l : Nat} {env : Env} : swapsWithSole [.Subscript o i p] v l env = pure false := by
  unfold swapsWithSole
  cases v <;> rfl
theorem sw_tup {v : Expr} {es : List Expr} {kk : Nat} {p : Pos} {l : Nat} {env : Env} : swapsWithSole [.Tuple es kk p] v l env = pure false := by
  unfold swapsWithSole
  cases v <;> rfl
theorem st_tup {v : Expr} {es : List Expr} {kk : Nat} {p : Pos} {env : Env} (h : notTup v = true) : swappedStores [.Tuple es kk p] v env = pure none := by
  cases v <;> first | rfl | (exact Bool.noConfusion h)
theorem sw2 {x y : Str} {px py pt pt2 : Pos} {kt k2 : Nat} {a b : Expr} {env : Env} (hk : env.scope.kind = .function) (hx : env.scope.names.lookup x = some .local) (hy : env.scope.names.lookup y = some .local) (hl : py.line = px.line) (hn : x ≠ y)
    (hs : [a, b].all notStar = true) (h1 : [a, b].all (foldedForSure 8) = false) (h2 : [a, b].all (constantsAlone 8) = false) : swappedStores [.Tuple [.Name x px, .Name y py] kt pt] (.Tuple [a, b] k2 pt2) env = pure (some [x, y]) := by
  have kx : env.kindOf x = some NameKind.local := hx
  have ky : env.kindOf y = some NameKind.local := hy
  have hb : env.blockKind = .function := by unfold Env.blockKind; rw [hk]; rfl
  unfold swappedStores
  show (if _ then _ else _ : Sem (Option (List Str))) = _
  refine (if_neg ?_).trans ?_
  · rw [hb]; simp
  show (if _ then _ else _ : Sem (Option (List Str))) = _
  refine (if_neg ?_).trans ?_
  · simp only [List.all_cons, List.all_nil, Bool.and_true, Bool.and_eq_true] at hs
    obtain ⟨s1, s2⟩ := hs
    simp only [List.any_cons, List.any_nil, Bool.or_false]
    cases a <;> first | (exact Bool.noConfusion s1) | (cases b <;> first | (exact Bool.noConfusion s2) | exact Bool.false_ne_true)
  show (if _ then _ else _ : Sem (Option (List Str))) = _
  refine (if_neg ?_).trans ?_
  · simp [List.filterMap_cons, kx, ky, hl, Expr.pos, List.eraseDups_cons, Ne.symm hn]
  show (if _ then _ else _ : Sem (Option (List Str))) = _
  refine (if_neg (by rw [h1]; simp)).trans ?_
  show (if _ then _ else _ : Sem (Option (List Str))) = _
  refine (if_neg (by rw [h2]; simp)).trans ?_
  simp [List.filterMap_cons, kx, ky, hl, Expr.pos]
theorem sw3 {x y z : Str} {px py pz pt pt2 : Pos} {kt k2 : Nat} {a b c : Expr} {env : Env} (hk : env.scope.kind = .function) (hx : env.scope.names.lookup x = some .local) (hy : env.scope.names.lookup y = some .local) (hz : env.scope.names.lookup z = some .local) (hl : py.line = px.line) (hl2 : pz.line = px.line) (hn : x ≠ y) (hn2 : x ≠ z) (hn3 : y ≠ z)
    (hs : [a, b, c].all notStar = true) (h1 : [a, b, c].all (foldedForSure 8) = false) (h2 : [a, b, c].all (constantsAlone 8) = false) : swappedStores [.Tuple [.Name x px, .Name y py, .Name z pz] kt pt] (.Tuple [a, b, c] k2 pt2) env = pure (some [x, y, z]) := by
  have kx : env.kindOf x = some NameKind.local := hx
  have ky : env.kindOf y = some NameKind.local := hy
  have kz : env.kindOf z = some NameKind.local := hz
  have hb : env.blockKind = .function := by unfold Env.blockKind; rw [hk]; rfl
  unfold swappedStores
  show (if _ then _ else _ : Sem (Option (List Str))) = _
  refine (if_neg ?_).trans ?_
  · rw [hb]; simp
  show (if _ then _ else _ : Sem (Option (List Str))) = _
  refine (if_neg ?_).trans ?_
  · simp only [List.all_cons, List.all_nil, Bool.and_true, Bool.and_eq_true] at hs
    obtain ⟨s1, s2, s3⟩ := hs
    simp only [List.any_cons, List.any_nil, Bool.or_false, Bool.or_eq_true, not_or]
    refine ⟨?_, ?_, ?_⟩
    · cases a <;> first | (exact Bool.noConfusion s1) | exact Bool.false_ne_true
    · cases b <;> first | (exact Bool.noConfusion s2) | exact Bool.false_ne_true
    · cases c <;> first | (exact Bool.noConfusion s3) | exact Bool.false_ne_true
  show (if _ then _ else _ : Sem (Option (List Str))) = _
  refine (if_neg ?_).trans ?_
  · simp [List.filterMap_cons, kx, ky, kz, hl, hl2, Expr.pos, List.eraseDups_cons, Ne.symm hn, Ne.symm hn2, Ne.symm hn3]
  show (if _ then _ else _ : Sem (Option (List Str))) = _
  refine (if_neg (by rw [h1]; simp)).trans ?_
  show (if _ then _ else _ : Sem (Option (List Str))) = _
  refine (if_neg (by rw [h2]; simp)).trans ?_
  simp [List.filterMap_cons, kx, ky, kz, hl, hl2, Expr.pos]
theorem st_sub {v o i : Expr} {p : Pos} {env : Env} : swappedStores [.Subscript o i p] v env = pure none := by
  cases v <;> rfl
theorem as_sub {o i : Expr} {pos : Pos} {env : Env} (h : notSlice i = true) (w : Value) : assign (.Subscript o i pos) env w = (do
      let ov ← holding [w] (eval o env)
      let iv ← holding [w, ov] (eval i env)
      standAt pos
      holding [w, ov, iv] (setItem ov iv w)
      release [w, ov, iv] []) := by
  cases i <;> first | rfl | (exact Bool.noConfusion h)
theorem aug_sub {i : Expr} (h : notSlice i = true) (ov iv new : Value) : augStore i ov iv new = (do holding [new, ov, iv] (setItem ov iv new); release [new, ov, iv] []; pure .next) := by
  cases i <;> first | rfl | (exact Bool.noConfusion h)
/-- the values of a tuple that is taken apart at once -/
theorem par_st {Z : Ev} {EX : WX} {C : Calls} {m : List Addr} {h : Hs} {H : Hp} {st : Sl} {σ : L2.St} {D : Ends} {js : List Nat} {es : Es} (rs : RepS Z m st h σ H) (p : PostO Z EX m H (((evs C es st h).bind tupF).st (asgK (.tup js) st)) D 0) {K : List V → Hp → Prop}
    (k : ∀ m1 H1 xs vs h1, Ext m H m1 H1 → RepS Z m1 st h1 σ H1 → RVs Z.K m1 H1 vs xs → PostO Z EX m1 H1 (match setTs js vs st with | some st => .nx st h1 | none => .stk) D 0 → K xs H1) : tEs Z EX C es σ H K := by
  refine ⟨m, st, h, rs, ?_⟩
  cases q : evs C es st h with
  | ok vs h1 =>
    rw [q, R.bind_ok] at p
    unfold tupF at p
    split at p
    · exact fun m' H' ex r xs rv => k m' H' xs vs h1 ex (rs.mono ex r) rv (PostO.mono (o := match setTs js vs st with | some st => .nx st h1 | none => .stk) p ex)
    · exact False.elim p
  | exc c vs h1 => rw [q] at p; exact p
  | stk => rw [q] at p; exact p
theorem lookup_mem {g : Str} : ∀ {s : List (Str × V)} {y : V}, s.lookup g = some y → ∃ q ∈ s, q.1 = g
  | [], _, l => by cases l
  | q :: r, y, l => by
    rw [List.lookup_cons] at l
    split at l
    · rename_i e; exact ⟨q, List.mem_cons_self, (eq_of_beq e).symm⟩
    · obtain ⟨q', h1, h2⟩ := lookup_mem l; exact ⟨q', List.mem_cons_of_mem _ h1, h2⟩
structure GoodS (G : Tab) (ca : Nat → Addr) (CX : CXT) (E : XK) (n : Nat) (k : Sc) (X : Cx) : Prop where
  kind : k.sc.kind = .function
  g : Good G ca CX E n k X
  own : PassesOwn (model X.prog X.w) X.A X.env X.xe
  cx : ∃ w', CX = L2.CX X.prog w' ∧ w' = X.w
  tak : Takes X (fun cls d _ H => E cls d H)
  stk : X.stack = X.env :: X.outer
  frm : X.env.frame = some X.env.locals
section
variable {X : Cx} {G : Tab} {ca : Nat → Addr} {CX : CXT} {EK : XK} {n : Nat} {k : Sc} {EX : WX} {C : Calls}
theorem setFld_ok {Z : Ev} {m : List Addr} {h h' : Hs} {H : Hp} {v : Val} {x : V} {f : Nat} {g : Str} {w : Val} {y : V} {ok : Nat → Nat → Bool} (lk : ∀ c, ok c f = true → NoAttr Z.K (Z.ca c) g)
    (hg : Z.nm[f]? = some g) (r : Rep Z m h H) (rv : RV Z.K m H v x) (rw_ : RV Z.K m H w y) (e : setFld ok v f w h = some h') :
    ∃ a c dx fx, x = .ref a ∧ H a = some (.ins (Z.ca c) dx fx) ∧ Cls Z.K (Z.ca c) ∧ NoAttr Z.K (Z.ca c) g ∧ fx.length < 1000 ∧ clsF v h = some c ∧ ∀ Q, PostH Z m H (some h') Q → Q (upd H a (.ins (Z.ca c) dx (putF g y fx))) := by
  cases rv with
  | @ref n' a hn =>
    cases hb : h[n']? with
    | none => simp [setFld, hb] at e
    | some ob =>
      cases ob with
      | ins c fs =>
        simp only [setFld, hb] at e
        split at e
        · rename_i hc
          cases e
          obtain ⟨dx, fx, z1, z2, z3, z4⟩ := r.ins hn hb
          have hna := lk c hc.2
          refine ⟨a, c, dx, fx, rfl, z1, z3, hna, by rw [z2.len]; exact hc.1, by simp only [clsF, hb], fun Q p => ?_⟩
          refine PostH.set p r hn hb rfl rfl z1 (fun _ z => by cases z) (fun _ _ z => by cases z) ?_
          refine ⟨dx, _, upd_same, FR.put hg r.nm (RV.mono (ext_ins z1) _ _ rw_) (z2.mono (ext_ins z1)), z3, fun q hq => ?_⟩
          rcases putF_mem hq with e | ⟨y', hy, e⟩
          · rw [e]; exact hna
          · rw [← e]; exact z4 y' hy
        · cases e
      | lst _ => simp [setFld, hb] at e
      | frz _ => simp [setFld, hb] at e
      | dct _ => simp [setFld, hb] at e
  | _ => cases e
theorem lk_flds (g : Good G ca CX EK n k X) {f : Nat} {gn : Str} (h : G.nm[f]? = some gn) : ∀ c, (callsN G n).fldok c f = true → NoAttr X.K (ca c) gn := fun c h1 => by
  have h2 : (match G.cls[c]? with | some k => k.flds.contains f | none => false) = true := h1
  cases q : G.cls[c]? with
  | none => rw [q] at h2; cases h2
  | some d => rw [q] at h2; exact (g.lk.cls c d q).2.2.1 f gn h2 h
end
/-! ### the end of a try -/
abbrev fsX (v1 v2 : V) : List (Str × V) := [(("at" : Str), v2), (("word" : Str), v1)]
def PDx (K : PySem.W.Frag) (D : Ends) : XK := fun cls d H => cls = .ref (xA K 0) ∧ ∃ dd v1 v2, d = some dd ∧ H dd = some (.xd (fsX v1 v2)) ∧ ∀ t, H t = none → D.rt (.ref t) (upd H t (.tup [v1, v2]))
theorem zip0 (x1 x2 : V) : ((xFlds 0).zip [x1, x2]).reverse = fsX x1 x2 := by kernel_rfl
theorem try2_post {Z : Ev} {EX : WX} {m : List Addr} {H : Hp} {o : O} {D : Ends} (p : PostO Z EX m H (try2K o) D 0) : PostO Z (exOf Z (PDx Z.K D)) m H o D 0 := by
  cases o with
  | exc c vs h1 =>
    unfold try2K at p
    dsimp only at p
    split at p
    · rename_i a b
      intro m' H' e' r' xs d rv hd
      obtain ⟨x1, x2, rfl, ra, rb⟩ : ∃ x1 x2, xs = [x1, x2] ∧ RV Z.K m' H' a x1 ∧ RV Z.K m' H' b x2 := by
        cases rv with
        | cons ra rv =>
          cases rv with
          | cons rb rv =>
            cases rv
            exact ⟨_, _, rfl, ra, rb⟩
      rw [zip0]
      refine ⟨rfl, d, x1, x2, rfl, upd_same, fun t ht => ?_⟩
      have e1 : Ext m' H' m' (upd H' d (.xd (fsX x1 x2))) := ext_new0 hd
      have e2 : Ext m' (upd H' d (.xd (fsX x1 x2))) m' (upd (upd H' d (.xd (fsX x1 x2))) t (.tup [x1, x2])) := ext_new0 ht
      exact p m' _ (.ref t) (e'.trans (e1.trans e2)) ((r'.lay hd).lay ht) (.tup (.inl (.inl upd_same)) (.cons (RV.mono (e1.trans e2) _ _ ra) (.cons (RV.mono (e1.trans e2) _ _ rb) .nil)))
    · exact False.elim p
  | nx _ _ => exact p
  | rt _ _ => exact p
  | bk _ _ => exact p
  | ct _ _ => exact p
  | stk => exact p
theorem look_w (v1 v2 : V) : (fsX v1 v2).lookup ("word" : Str) = some v1 := by kernel_rfl
theorem look_a (v1 v2 : V) : (fsX v1 v2).lookup ("at" : Str) = some v2 := by kernel_rfl
section
variable {G : Tab} {ca : Nat → Addr} {CX : CXT}
mutual
theorem sS : ∀ (s : S) {k : Sc} {n : Nat} {X : Cx} {EK : XK} {py : Stmt}, GoodS G ca CX EK n k X → chkS G k s py = true → PS X py (tS (zz X G.nm ca) (exOf (zz X G.nm ca) EK) (callsN G n) s)
  | .expr e, k, n, X, EK, py, g, h => by
    unfold chkS at h
    split at h
    · simp only [Bool.and_eq_true] at h
      refine ps_w (ps_expr (sE e g.g h.1).1 (sw_none h.2)) fun D σ H q => ?_
      obtain ⟨m, st, h, rs, p⟩ := q
      unfold ex at p
      exact oE rs p fun m1 H1 x v h1 e1 rs1 v1 p1 => p1.nx rs1
    · cases h
  | .asg (.nm i) e, k, n, X, EK, py, g, h => by
    unfold chkS at h
    dsimp only at h
    rcases (Bool.or_eq_true _ _).mp h with h | h
    rcases (Bool.or_eq_true _ _).mp h with h | h
    · split at h
      · simp only [Bool.and_eq_true, decide_eq_true_eq] at h
        obtain ⟨⟨⟨h1, h2⟩, h3⟩, h4⟩ := h
        refine ps_w (ps_set (by rw [g.g.N]; exact g.g.nd) (by rw [g.g.N]; exact h2) (locB_loc h3 g.g.sc) (sE e g.g h1).1 (sw_nm h4) (locB_fn h3 g.g.sc g.g.fn)) fun D σ H q => ?_
        obtain ⟨m, st, h, rs, p⟩ := q
        unfold ex at p
        refine oE rs p fun m1 H1 x v h1 e1 rs1 v1 p1 => ?_
        exact p1.nx (rs1.put i v1)
      · cases h
    · split at h
      · rename_i elt tg it cond own x px ee tt ii ifs scope pos _ _ _
        simp only [Bool.and_eq_true, decide_eq_true_eq] at h
        obtain ⟨⟨h1, h2⟩, h3⟩ := h
        simp only [swB, Bool.and_eq_true, decide_eq_true_eq, Bool.not_eq_true'] at h2
        obtain ⟨⟨h4, h5⟩, h6⟩ := h2
        have hsc : X.env.scope.names.lookup x = some .local := by rw [g.g.sc]; exact h4
        unfold chkE at h3
        simp only [Bool.and_eq_true] at h3
        obtain ⟨⟨⟨⟨⟨⟨q1, q2⟩, q3⟩, q4⟩, q5⟩, q6⟩, q7⟩ := h3
        refine ps_any fun D σ H q => ?_
        refine ⟨_, ps_setLc (wi := tI (zz X G.nm ca) (exOf (zz X G.nm ca) EK) (callsN G n) it) (g := gOf X.K tg) (tt := tEc (zz X G.nm ca) noE (callsN G n) cond) (te := tE (zz X G.nm ca) noE (callsN G n) elt) (own := own) g.g.calm (by rw [g.g.N]; exact g.g.nd) (by rw [g.g.N]; exact h1) hsc
          (sw_true (by rw [g.g.sc]; exact g.kind) hsc h5 h6) (sI it g.g q1) (by rw [g.g.N, g.g.sc]; exact blkOk_by q2)
          (fun s H Ca cl fp => pg_of (k := ⟨k.N, relS _ k.sc, _⟩) g.g.block.N g.g.nd g.g.block.sc g.g.block.fn g.g.calm q5)
          (fun s H Ca cl fp => pts_w (sC cond g.g.block q6) fun _ _ _ q => tEc_noE q) (fun s H Ca cl fp => pe_w (sE elt g.g.block q7).1 fun _ _ _ q => tE_noE q) (noset_fold q3), ?_⟩
        obtain ⟨m, st, h, rs, p⟩ := q
        unfold ex at p
        refine lc_ok (EX := exOf (zz X G.nm ca) EK) (fun j hj => ?_) ⟨m, st, h, rs, ?_⟩
        · have := List.all_eq_true.mp q4 j hj
          simp only [Bool.and_eq_true, List.contains_iff_mem] at this
          exact this.1
        · have e1 : ∀ r : R Val, PostO (zz X G.nm ca) (exOf (zz X G.nm ca) EK) m H (r.st (asgK (.nm i) st)) D 0 →
              PostG (zz X G.nm ca) (exOf (zz X G.nm ca) EK) m H r (wV (zz X G.nm ca) fun x H1 => gName i x σ H1 D.nx) := fun r p => by
            cases r with
            | ok v h1 => exact fun m' H' e' r' x rv => p m' H' _ e' ((rs.mono e' r').put i rv)
            | exc _ _ _ => exact p
            | stk => exact p
          exact e1 _ p
      · cases h
    · split at h
      · simp only [Bool.and_eq_true, decide_eq_true_eq, Bool.not_eq_true'] at h
        obtain ⟨⟨⟨h1, h2⟩, h3⟩, h4⟩ := h
        refine ps_w (ps_set (by rw [g.g.N]; exact g.g.nd) (by rw [g.g.N]; exact h2) (locB_loc h3 g.g.sc) (sE e g.g h1).1 (sw_false g.g.sc h4) (locB_fn h3 g.g.sc g.g.fn)) fun D σ H q => ?_
        obtain ⟨m, st, h, rs, p⟩ := q
        unfold ex at p
        refine oE rs p fun m1 H1 x v h1 e1 rs1 v1 p1 => ?_
        exact p1.nx (rs1.put i v1)
      · cases h
  | .asg (.tup js) e, k, n, X, EK, py, g, h => by
    unfold chkS at h
    dsimp only at h
    rcases (Bool.or_eq_true _ _).mp h with h | h
    rotate_left
    · unfold parB at h
      split at h
      · rename_i i j es x px y py kt pt a b k2 pt2 pos _
        simp only [Bool.and_eq_true, decide_eq_true_eq, Bool.not_eq_true'] at h
        obtain ⟨⟨⟨⟨⟨⟨⟨⟨h1, h2⟩, h3⟩, h4⟩, h5⟩, h6⟩, h7⟩, h8⟩, h9⟩ := h
        obtain ⟨ha, hb, _⟩ := sEs es g.g h7
        have hij : i ≠ j := fun z => h3 (by rw [z, h2] at h1; exact (Option.some.inj h1).symm)
        have kx : X.env.scope.names.lookup x = some .local := by rw [g.g.sc]; exact h4
        have ky : X.env.scope.names.lookup y = some .local := by rw [g.g.sc]; exact h5
        have hw : swappedStores [.Tuple [.Name x px, .Name y py] kt pt] (.Tuple [a, b] k2 pt2) X.env = pure (some [x, y]) := sw2 (by rw [g.g.sc]; exact g.kind) kx ky (eq_of_beq h6) h3 hb h8 h9
        refine ps_w (ps_par g.g.calm (by rw [g.g.N]; exact g.g.nd) (by rw [g.g.N]; exact h1) (by rw [g.g.N]; exact h2) hij kx ky ha hw (by rfl)) fun D σ H q => ?_
        obtain ⟨m, st, h, rs, p⟩ := q
        unfold ex at p
        rw [ev] at p
        refine par_st rs p fun m1 H1 xs vs h1 e1 rs1 v1 p1 => ?_
        cases v1 with
        | cons r1 q =>
          cases q with
          | cons r2 q =>
            cases q with
            | nil => exact ⟨_, _, rfl, PostO.nx p1 ((rs1.put i r1).put j r2)⟩
            | cons _ _ => exact False.elim p1
          | nil => exact False.elim p1
        | nil => exact False.elim p1
      · rename_i i j l es x px y py z pz kt pt a b c k2 pt2 pos _
        simp only [Bool.and_eq_true, decide_eq_true_eq, Bool.not_eq_true'] at h
        obtain ⟨⟨⟨⟨⟨⟨⟨⟨⟨⟨⟨⟨⟨h1, h2⟩, h3⟩, n1⟩, n2⟩, n3⟩, l1⟩, l2⟩, l3⟩, e1⟩, e2⟩, h7⟩, h8⟩, h9⟩ := h
        obtain ⟨ha, hb, _⟩ := sEs es g.g h7
        have hij : i ≠ j := fun w => n1 (by rw [w, h2] at h1; exact (Option.some.inj h1).symm)
        have hil : i ≠ l := fun w => n2 (by rw [w, h3] at h1; exact (Option.some.inj h1).symm)
        have hjl : j ≠ l := fun w => n3 (by rw [w, h3] at h2; exact (Option.some.inj h2).symm)
        have kx : X.env.scope.names.lookup x = some .local := by rw [g.g.sc]; exact l1
        have ky : X.env.scope.names.lookup y = some .local := by rw [g.g.sc]; exact l2
        have kz : X.env.scope.names.lookup z = some .local := by rw [g.g.sc]; exact l3
        have hw : swappedStores [.Tuple [.Name x px, .Name y py, .Name z pz] kt pt] (.Tuple [a, b, c] k2 pt2) X.env = pure (some [x, y, z]) := sw3 (by rw [g.g.sc]; exact g.kind) kx ky kz (eq_of_beq e1) (eq_of_beq e2) n1 n2 n3 hb h8 h9
        refine ps_w (ps_par3 g.g.calm (by rw [g.g.N]; exact g.g.nd) (by rw [g.g.N]; exact h1) (by rw [g.g.N]; exact h2) (by rw [g.g.N]; exact h3) hij hil hjl kx ky kz ha hw (by rfl)) fun D σ H q => ?_
        obtain ⟨m, st, h, rs, p⟩ := q
        unfold ex at p
        rw [ev] at p
        refine par_st rs p fun m1 H1 xs vs h1 e1 rs1 v1 p1 => ?_
        cases v1 with
        | cons r1 q =>
          cases q with
          | cons r2 q =>
            cases q with
            | cons r3 q =>
              cases q with
              | nil => exact ⟨_, _, _, rfl, PostO.nx p1 (((rs1.put i r1).put j r2).put l r3)⟩
              | cons _ _ => exact False.elim p1
            | nil => exact False.elim p1
          | nil => exact False.elim p1
        | nil => exact False.elim p1
      · cases h
    split at h
    · simp only [Bool.and_eq_true] at h
      obtain ⟨⟨h1, h2⟩, h3⟩ := h
      refine ps_w (ps_asg (sE e g.g h1).1 (pg_of g.g.N g.g.nd g.g.sc g.g.fn g.g.calm h2) sw_tup (st_tup h3)) fun D σ H q => ?_
      obtain ⟨m, st, h, rs, p⟩ := q
      unfold ex at p
      refine oE rs p fun m1 H1 x v h1 e1 rs1 v1 p1 => ?_
      unfold asgK at p1
      cases w : setT (.tup js) v st with
      | none => rw [w] at p1; exact False.elim p1
      | some st1 =>
        rw [w] at p1
        exact setT_ok rs1 v1 w fun σ1 rs2 _ => PostO.nx p1 rs2
    · cases h
  | .fld o f e, k, n, X, EK, py, g, h => by
    unfold chkS at h
    split at h
    · simp only [Bool.and_eq_true, decide_eq_true_eq] at h
      obtain ⟨⟨h1, h2⟩, h3⟩ := h
      refine ps_w (ps_fld (sE o g.g h2).1 (sE e g.g h3).1 sw_fld) fun D σ H q => ?_
      obtain ⟨m, st, h, rs, p⟩ := q
      unfold ex at p
      refine oE rs p fun m1 H1 y v h1' e1 rs1 v1 p1 => ?_
      refine oE rs1 p1 fun m2 H2 x w h2' e2 rs2 v2 p2 => ?_
      have p3 := oH p2 rs2
      cases q : setFld (callsN G n).fldok w f v h2' with
      | none => rw [q] at p3; exact False.elim p3
      | some h3' =>
        rw [q] at p3
        obtain ⟨a, c, dx, fx, z1, z2, z3, z4, z5, _, z6⟩ := setFld_ok (Z := zz X G.nm ca) (lk_flds g.g h1) h1 rs2.rep v2 (RV.mono e2 _ _ v1) q
        exact ⟨a, ca c, dx, fx, z1, z2, z3, z4, z5, z6 _ p3⟩
    · cases h
  | .sub o i e, k, n, X, EK, py, g, h => by
    unfold chkS at h
    split at h
    · simp only [Bool.and_eq_true] at h
      obtain ⟨⟨⟨h1, h2⟩, h3⟩, h4⟩ := h
      have hu : X.A.units + 1 < cLine := by have := g.g.hu; omega
      refine ps_w (ps_asg (sE e g.g h3).1 (pg_sub (sE o g.g h1).1 (sE i g.g h2).1 (set_S (nm := G.nm) (ca := ca) hu) (as_sub h4)) sw_sub st_sub) fun D σ H q => ?_
      obtain ⟨m, st, h, rs, p⟩ := q
      unfold ex at p
      refine oE rs p fun m1 H1 y v h1' e1 rs1 v1 p1 => ?_
      refine oE rs1 p1 fun m2 H2 x w h2' e2 rs2 v2 p2 => ?_
      refine oE rs2 p2 fun m3 H3 z u h3' e3 rs3 v3 p3 => ?_
      exact ⟨m3, h3', w, u, v, rs3.rep, RV.mono e3 _ _ v2, v3, RV.mono (e2.trans e3) _ _ v1, oH p3 rs3⟩
    · cases h
  | .aug i op e, k, n, X, EK, py, g, h => by
    unfold chkS at h
    split at h
    · simp only [Bool.and_eq_true, decide_eq_true_eq] at h
      obtain ⟨⟨⟨rfl, h2⟩, h3⟩, h4⟩ := h
      refine ps_w (ps_aug (by rw [g.g.N]; exact g.g.nd) (by rw [g.g.N]; exact h2) (locB_loc h3 g.g.sc) (sE e g.g h4).1 (op_ip (nm := G.nm) (ca := ca) op) (locB_fn h3 g.g.sc g.g.fn)) fun D σ H q => ?_
      obtain ⟨m, st, h, rs, p⟩ := q
      unfold ex at p
      unfold augG at p
      split at p
      · rename_i x hx
        obtain ⟨xv, z1, z2⟩ := rs.sl i x hx
        refine ⟨xv, z1, ?_⟩
        refine oE rs p fun m1 H1 y v h1' e1 rs1 v1 p1 => ?_
        exact ⟨m1, h1', x, v, rs1.rep, RV.mono e1 _ _ z2, v1, oP (pure_ipF _ _ _ _) p1 fun m2 H2 zz' vz h2 _ e2 r2 v2 p2 => p2.nx ((rs1.mono e2 r2).put i v2)⟩
      · exact False.elim p
    · cases h
  | .augF o f op e, k, n, X, EK, py, g, h => by
    unfold chkS at h
    split at h
    · simp only [Bool.and_eq_true, decide_eq_true_eq] at h
      obtain ⟨⟨⟨rfl, h1⟩, h2⟩, h3⟩ := h
      refine ps_w (ps_fldaug (sE o g.g h2).1 (sE e g.g h3).1 (op_ip (nm := G.nm) (ca := ca) op)) fun D σ H q => ?_
      obtain ⟨m, st, h, rs, p⟩ := q
      unfold ex at p
      refine oE rs p fun m1 H1 x w h1' e1 rs1 v1 p1 => ?_
      cases v1 with
      | @ref n' a hn =>
        cases hb : h1'[n']? with
        | none => simp only [afS1, fldF, hb] at p1; exact False.elim p1
        | some ob =>
          cases ob with
          | ins c fs =>
            obtain ⟨dx, fx, z1, z2, z3, z4⟩ := rs1.rep.ins hn hb
            simp only [afS1, fldF, hb] at p1
            cases q : fget fs f with
            | none => rw [q] at p1; exact False.elim p1
            | some w2 =>
              rw [q] at p1
              obtain ⟨y, l, ry⟩ := FR.get h1 rs1.rep.nm z2 q
              obtain ⟨q', hm, eq'⟩ := lookup_mem l
              have na := z4 q' hm
              rw [eq'] at na
              refine ⟨a, ca c, dx, fx, y, rfl, z1, z3, na, l, ?_⟩
              refine oE rs1 p1 fun m2 H2 yv vv h2' e2 rs2 v2 p2 => ?_
              refine ⟨m2, h2', w2, vv, rs2.rep, RV.mono e2 _ _ ry, v2, oP (pure_ipF _ _ _ _) p2 fun m3 H3 zv vz h3' _ e3 r3 v3 p3 => ?_⟩
              unfold afS4 at p3
              split at p3
              · rename_i hcl
                have p4 := oH p3 (rs2.mono e3 r3)
                cases q2 : setFld (callsN G n).fldok (.ref n') f vz h3' with
                | none => rw [q2] at p4; exact False.elim p4
                | some h4' =>
                  rw [q2] at p4
                  have hn3 := (e2.trans e3).pre _ _ hn
                  obtain ⟨a', c', dx', fx', y1, y2, y3, y4, y5, y6, y7⟩ := setFld_ok (Z := zz X G.nm ca) (lk_flds g.g h1) h1 r3 (.ref hn3) v3 q2
                  cases y1
                  rw [y6] at hcl
                  simp only [clsF, hb, Option.some.injEq] at hcl
                  subst hcl
                  exact ⟨dx', fx', y2, y5, y7 _ p4⟩
              · exact False.elim p3
          | lst _ => simp only [afS1, fldF, hb] at p1; exact False.elim p1
          | frz _ => simp only [afS1, fldF, hb] at p1; exact False.elim p1
          | dct _ => simp only [afS1, fldF, hb] at p1; exact False.elim p1
      | _ => exact False.elim p1
    · cases h
  | .augS o i op e, k, n, X, EK, py, g, h => by
    unfold chkS at h
    split at h
    · simp only [Bool.and_eq_true, decide_eq_true_eq] at h
      obtain ⟨⟨⟨⟨rfl, h1⟩, h2⟩, h3⟩, h4⟩ := h
      have hu : X.A.units + 1 < cLine := by have := g.g.hu; omega
      refine ps_w (ps_augS (sE o g.g h1).1 (sE i g.g h2).1 (get_S (nm := G.nm) (ca := ca) hu) (sE e g.g h3).1 (op_ip (nm := G.nm) (ca := ca) op) (set_S (nm := G.nm) (ca := ca) hu) (aug_sub h4)) fun D σ H q => ?_
      obtain ⟨m, st, h, rs, p⟩ := q
      unfold ex at p
      refine oE rs p fun m1 H1 x vx h1' e1 rs1 v1 p1 => ?_
      refine oE rs1 p1 fun m2 H2 y vy h2' e2 rs2 v2 p2 => ?_
      refine ⟨m2, h2', vx, vy, rs2.rep, RV.mono e2 _ _ v1, v2, oP (pure_gtF _ _ _) p2 fun m3 H3 z vz h3' _ e3 r3 v3 p3 => ?_⟩
      refine oE (rs2.mono e3 r3) p3 fun m4 H4 w vw h4' e4 rs4 v4 p4 => ?_
      refine ⟨m4, h4', vz, vw, rs4.rep, RV.mono e4 _ _ v3, v4, oP (pure_ipF _ _ _ _) p4 fun m5 H5 u vu h5' _ e5 r5 v5 p5 => ?_⟩
      exact ⟨m5, h5', vx, vy, vu, r5, RV.mono (e2.trans (e3.trans (e4.trans e5))) _ _ v1, RV.mono (e3.trans (e4.trans e5)) _ _ v2, v5, oH p5 (rs4.mono e5 r5)⟩
    · cases h
  | .del o i, k, n, X, EK, py, g, h => by
    unfold chkS at h
    split at h
    · simp only [Bool.and_eq_true] at h
      refine ps_w (ps_ddel (sE o g.g h.1).1 (sE i g.g h.2).1) fun D σ H q => ?_
      obtain ⟨m, st, h, rs, p⟩ := q
      unfold ex at p
      refine oE rs p fun m1 H1 x vx h1' e1 rs1 v1 p1 => ?_
      refine oE rs1 p1 fun m2 H2 y vy h2' e2 rs2 v2 p2 => ?_
      have p3 := oH p2 rs2
      cases q : delF vx vy h2' with
      | none => rw [q] at p3; exact False.elim p3
      | some h3' =>
        rw [q] at p3
        cases v1 with
        | @ref n' a hn =>
          simp only [delF] at q
          split at q
          · rename_i kvs hb
            split at q
            · rename_i ky ek
              split at q
              · rename_i hs
                cases q
                obtain ⟨kxs, z1, z2⟩ := rs2.rep.dct (e2.pre _ _ hn) hb
                refine ⟨a, kxs, kyK ky, rfl, z1, toKy_rv v2 ek, by rw [z2.isSome]; exact hs, ?_⟩
                exact PostH.set p3 rs2.rep (e2.pre _ _ hn) hb rfl rfl z1 (fun _ z => by cases z) (fun _ _ z => by cases z) ⟨_, upd_same, (z2.del).mono (ext_dct z1)⟩
              · cases q
            · cases q
          · cases q
        | _ => cases q
    · cases h
  | .ifs c a b, k, n, X, EK, py, g, h => by
    unfold chkS at h
    split at h
    · simp only [Bool.and_eq_true] at h
      refine ps_w (ps_if (sE c g.g h.1.1).2.1 (sSs a g h.1.2) (sSs b g h.2)) fun D σ H q => ?_
      obtain ⟨m, st, h, rs, p⟩ := q
      unfold ex at p
      refine oT rs p fun m1 H1 kk h1 e1 rs1 p1 => ?_
      cases kk with
      | true => rw [if_pos rfl]; exact ⟨m1, st, h1, rs1, p1⟩
      | false => rw [if_neg Bool.false_ne_true]; exact ⟨m1, st, h1, rs1, p1⟩
    · cases h
  | .fors t it body, k, n, X, EK, py, g, h => by
    unfold chkS at h
    split at h
    · simp only [Bool.and_eq_true] at h
      obtain ⟨⟨⟨h1, h2⟩, h3⟩, h4⟩ := h
      refine ps_w (ps_for g.own g.g.calm (sI it g.g h1) (pg_of g.g.N g.g.nd g.g.sc g.g.fn g.g.calm h2) (sSs body g h4) (noset_fold h3)) fun D σ H q => ?_
      obtain ⟨m, st, h, rs, p⟩ := q
      unfold ex at p
      refine oI rs p fun m1 H1 J src h1 e1 rs1 jr p1 => ?_
      refine ⟨fun i ms σ' H' => ∃ mm st hh, Ext m1 H1 mm H' ∧ RepS (zz X G.nm ca) mm st hh σ' H' ∧ ms = src.items.length - i ∧ i ≤ src.items.length ∧
        PostO (zz X G.nm ca) (exOf (zz X G.nm ca) EK) mm H' (forV (forK t (exs (callsN G n) body)) src (src.items.drop i) st hh) D 0, ⟨src.items.length, m1, st, h1, Ext.refl _ _, rs1, rfl, Nat.zero_le _, by rw [List.drop_zero]; exact p1⟩, ?_⟩
      rintro i ms σ' H' ⟨mm, st', hh, ex', rr, rfl, hi, pp⟩
      by_cases hlt : i < src.items.length
      · rw [List.drop_eq_getElem_cons hlt] at pp
        unfold forV at pp
        by_cases hok : src.ok hh = true
        · rw [if_pos hok] at pp
          obtain ⟨j1, _⟩ := jr mm hh H' ex' rr.rep hok i
          obtain ⟨j2, j3⟩ := j1 _ (List.getElem?_eq_getElem hlt)
          refine .inr ⟨j2, fun σ'' H'' => ∃ ms', ms' < src.items.length - i ∧ ∃ mm st hh, Ext m1 H1 mm H'' ∧ RepS (zz X G.nm ca) mm st hh σ'' H'' ∧ ms' = src.items.length - (i + 1) ∧ i + 1 ≤ src.items.length ∧
            PostO (zz X G.nm ca) (exOf (zz X G.nm ca) EK) mm H'' (forV (forK t (exs (callsN G n) body)) src (src.items.drop (i + 1)) st hh) D 0, fun σ'' H'' z => z, fun x H'' hy => ?_⟩
          obtain ⟨m2, e2, r2, v2⟩ := j3 x H'' hy
          have p2 := PostO.mono pp e2
          have rs2 := rr.mono e2 r2
          unfold forK at p2
          cases w : setT t src.items[i] st' with
          | none => rw [w] at p2; exact False.elim p2
          | some st1 =>
            rw [w] at p2
            dsimp only at p2
            refine setT_ok rs2 v2 w fun σ1 rs3 _ => ⟨m2, st1, hh, rs3, ?_⟩
            have next : ∀ st2 h2, PostO (zz X G.nm ca) (exOf (zz X G.nm ca) EK) m2 H'' (forV (forK t (exs (callsN G n) body)) src (src.items.drop (i + 1)) st2 h2) D 0 → ∀ m' H3 σ3, Ext m2 H'' m' H3 → RepS (zz X G.nm ca) m' st2 h2 σ3 H3 → ∃ ms', ms' < src.items.length - i ∧ ∃ mm st hh, Ext m1 H1 mm H3 ∧ RepS (zz X G.nm ca) mm st hh σ3 H3 ∧ ms' = src.items.length - (i + 1) ∧ i + 1 ≤ src.items.length ∧
                PostO (zz X G.nm ca) (exOf (zz X G.nm ca) EK) mm H3 (forV (forK t (exs (callsN G n) body)) src (src.items.drop (i + 1)) st hh) D 0 := fun st2 h2 p3 m' H3 σ3 e3 rs4 =>
              ⟨_, by omega, m', st2, h2, ex'.trans (e2.trans e3), rs4, rfl, hlt, PostO.mono p3 e3⟩
            cases r : exs (callsN G n) body st1 hh with
            | nx st2 h2 => rw [r] at p2; exact next st2 h2 p2
            | ct st2 h2 => rw [r] at p2; exact next st2 h2 p2
            | bk st2 h2 => rw [r] at p2; exact p2
            | rt v h2 => rw [r] at p2; exact p2
            | exc c vs h2 => rw [r] at p2; exact p2
            | stk => rw [r] at p2; exact p2
        · rw [if_neg hok] at pp
          exact False.elim pp
      · have hie : i = src.items.length := by omega
        subst hie
        rw [List.drop_length] at pp
        unfold forV at pp
        by_cases hok : src.ok hh = true
        · rw [if_pos hok] at pp
          obtain ⟨_, j2⟩ := jr mm hh H' ex' rr.rep hok src.items.length
          exact .inl ⟨j2 (Nat.le_refl _), PostO.nx pp rr⟩
        · rw [if_neg hok] at pp
          exact False.elim pp
    · cases h
  | .whil c body, k, n, X, EK, py, g, h => by
    unfold chkS at h
    split at h
    · simp only [Bool.and_eq_true] at h
      refine ps_w (ps_while g.own (sE c g.g h.1).2.1 (sSs body g h.2)) fun D σ H q => ?_
      obtain ⟨m, st, h, rs, p⟩ := q
      unfold ex at p
      refine ⟨fun fu σ' H' => ∃ mm st hh, RepS (zz X G.nm ca) mm st hh σ' H' ∧ PostO (zz X G.nm ca) (exOf (zz X G.nm ca) EK) mm H' (whV (et (callsN G n) c) (exs (callsN G n) body) fu st hh) D 0, ⟨fuel, m, st, h, rs, p⟩, ?_⟩
      rintro fu σ' H' ⟨mm, st', hh, rr, pp⟩
      cases fu with
      | zero => exact False.elim pp
      | succ fu =>
        unfold whV at pp
        refine oT rr pp fun m1 H1 kk h1 e1 rs1 p1 => ?_
        cases kk with
        | false => rw [if_neg Bool.false_ne_true]; exact p1.nx rs1
        | true =>
          rw [if_pos rfl]
          refine ⟨fun σ'' H'' => ∃ fu', fu' < fu + 1 ∧ ∃ mm st hh, RepS (zz X G.nm ca) mm st hh σ'' H'' ∧ PostO (zz X G.nm ca) (exOf (zz X G.nm ca) EK) mm H'' (whV (et (callsN G n) c) (exs (callsN G n) body) fu' st hh) D 0, fun σ'' H'' z => z, m1, st', h1, rs1, ?_⟩
          cases r : exs (callsN G n) body st' h1 with
          | nx st2 h2 => rw [r] at p1; exact fun m' H3 σ3 e3 rs4 => ⟨fu, Nat.lt_succ_self _, m', st2, h2, rs4, PostO.mono p1 e3⟩
          | ct st2 h2 => rw [r] at p1; exact fun m' H3 σ3 e3 rs4 => ⟨fu, Nat.lt_succ_self _, m', st2, h2, rs4, PostO.mono p1 e3⟩
          | bk st2 h2 => rw [r] at p1; exact p1
          | rt v h2 => rw [r] at p1; exact p1
          | exc cc vs h2 => rw [r] at p1; exact p1
          | stk => rw [r] at p1; exact p1
    · cases h
  | .ret e, k, n, X, EK, py, g, h => by
    unfold chkS at h
    split at h
    · refine ps_w (ps_ret (sE e g.g h).1) fun D σ H q => ?_
      obtain ⟨m, st, h, rs, p⟩ := q
      unfold ex at p
      refine oE rs p fun m1 H1 x v h1 e1 rs1 v1 p1 => ?_
      exact p1 m1 H1 x (Ext.refl _ _) rs1.rep v1
    · cases h
  | .retN, k, n, X, EK, py, g, h => by
    unfold chkS at h
    split at h
    · refine ps_w ps_retN fun D σ H q => ?_
      obtain ⟨m, st, h, rs, p⟩ := q
      exact p m H _ (Ext.refl _ _) rs.rep .non
    · cases h
  | .brk, k, n, X, EK, py, g, h => by
    unfold chkS at h
    split at h
    · refine ps_w ps_break fun D σ H q => ?_
      obtain ⟨m, st, h, rs, p⟩ := q
      exact p m H σ (Ext.refl _ _) rs
    · cases h
  | .cont, k, n, X, EK, py, g, h => by
    unfold chkS at h
    split at h
    · refine ps_w ps_continue fun D σ H q => ?_
      obtain ⟨m, st, h, rs, p⟩ := q
      exact p m H σ (Ext.refl _ _) rs
    · cases h
  | .rais c es, k, n, X, EK, py, g, h => by
    unfold chkS at h
    split at h
    · rename_i x px y ys cp rp
      simp only [Bool.and_eq_true, decide_eq_true_eq] at h
      obtain ⟨⟨⟨⟨rfl, h2⟩, h3⟩, h4⟩, h5⟩ := h
      obtain ⟨⟨file, XC, hfile⟩, hsup, htop, hglo⟩ := g.g.lk.exc c h3
      obtain ⟨g1, g2⟩ := glB_gl g.g.sc h2
      obtain ⟨fI, fd, z1, z2, z3, z4⟩ := XC.fn
      obtain ⟨ha, hs, h0⟩ := sEs es g.g h5
      rw [List.all_cons, Bool.and_eq_true] at hs
      have hxl : (xFlds c).length ≤ 1000 := by
        cases c with
        | zero => decide
        | succ c => show 1 ≤ 1000; decide
      have mk := pmk_oex (CX := CX) (k := n + 1) XC.T z1 z2 (z4 CX X.prog X.w X.mg X.base n hsup hfile htop) g.g.room z3 .nil (fun pins σ H s e s' _ h => (g.g.lk.nox _ _ _ _ _ h).elim) g1 hglo ha g2 (star_cons hs.1) (star_any hs.2) (p := px) (pos := cp)
      refine ps_w (ps_raise g.g.calm g.tak mk) fun D σ H q => ?_
      obtain ⟨m, st, h, rs, p⟩ := q
      unfold ex at p
      show tEs (zz X G.nm ca) (exOf (zz X G.nm ca) EK) (callsN G n) es σ H _
      refine ⟨m, st, h, rs, ?_⟩
      cases q : evs (callsN G n) es st h with
      | ok vs h1 =>
        rw [q] at p
        intro m1 H1 e1 r1 xs rv
        have p1 : PostO (zz X G.nm ca) (exOf (zz X G.nm ca) EK) m H (raiK c vs h1) D 0 := p
        unfold raiK at p1
        split at p1
        · rename_i hc
          refine mkO_of (by rw [← rv.len]; exact hc.2) hxl fun d hd => ?_
          exact p1 m1 H1 e1 r1 xs d rv hd
        · exact False.elim p1
      | exc c' vs h1 => rw [q] at p; exact p
      | stk => rw [q] at p; exact p
    · cases h
  | .try2 body i, k, n, X, EK, py, g, h => by
    unfold chkS at h
    split at h
    · rename_i bd x px nm' z1 zp1 f1 fp1 z2 zp2 f2 fp2 tk tp rp hp tp2
      simp only [Bool.and_eq_true, decide_eq_true_eq, Bool.not_eq_true'] at h
      obtain ⟨⟨⟨⟨⟨⟨⟨⟨⟨⟨⟨rfl, h2⟩, h3⟩, h4⟩, h5⟩, h6⟩, h7⟩, rfl⟩, rfl⟩, rfl⟩, rfl⟩, h8⟩ := h
      obtain ⟨⟨file, XC, hfile⟩, hsup, htop, hglo⟩ := g.g.lk.exc 0 h3
      obtain ⟨g1, g2⟩ := glB_gl g.g.sc h2
      obtain ⟨w', hcx, hw'⟩ := g.cx
      have hN : X.N[i]? = some z2 := by rw [g.g.N]; exact h4
      have hloc : X.env.kindOf z2 = some .local := by
        show X.env.scope.names.lookup z2 = _
        rw [g.g.sc]
        exact h5
      have hsu : ∀ (a : Addr) (oe : Obj) (cls : Value) (d : Option Addr) (pn : List (Addr × Obj)), Zc cls d oe → (∃ vs, oe.data = .fields vs) →
          PSs (X.suite a ((a, oe) :: pn)) [.Return (some (.Tuple [.Attribute (.Name z2 zp1) "word" fp1, .Attribute (.Name z2 zp2) "at" fp2] tk tp)) rp] (tSeq (tRet (tTup (tCons (tXf a cls d (xA X.K 0) "word" (tVar i)) (tCons (tXf a cls d (xA X.K 0) "at" (tVar i)) tNil)))) tNext) := fun a oe cls d pn hz hf => by
        have pv : ∀ q, PE (X.suite a ((a, oe) :: pn)) (.Name z2 q) (tVar i) := fun q => pe_var (X := X.suite a ((a, oe) :: pn)) hN (.inl hloc) h6 h7
        have p1 := pe_xf (pos := fp1) XC.F (XC.no "word" (by decide)) hz hf (pv zp1) (by rfl)
        have p2 := pe_xf (pos := fp2) XC.F (XC.no "at" (by decide)) hz hf (pv zp2) (by rfl)
        exact pss_cons (ps_ret (pe_tup (pa_cons p1 (pa_cons p2 pa_nil (by rfl)) (by rfl)))) pss_nil
      have hb : ∀ (W : L2.WX) (pn : List (Addr × Obj)) (xe : Value → Shared → Prop), Takes (X.tr pn xe) W → PassesOwn (model X.prog X.w) X.A X.env xe →
          PSs (X.tr pn xe) bd (fun D σ H => ∃ EK' : XK, (∀ cls d H σ', σ'.length = X.N.length → EK' cls d H → W cls d σ' H) ∧ tSs (zz X G.nm ca) (exOf (zz X G.nm ca) EK') (callsN G n) body D σ H) := fun W pn xe tk own => ⟨fun pins s σ H D I ⟨EK', hW, q⟩ => by
        have tak' : Takes (X.tr pn xe) (fun cls d _ H => EK' cls d H) := fun u s' ⟨a, B, sI, pins, σ, H, cls, d, e, I, nb, up, sky, na, os, ag, w⟩ =>
          tk u s' ⟨a, B, sI, pins, σ, H, cls, d, e, I, nb, up, sky, na, os, ag, hW cls d H σ I.len w⟩
        have pas : Passes CX (X.tr pn xe) EK' := by
          rw [hcx, hw']
          exact passes_call tak' fun _ _ _ _ h => h
        have gb : GoodS G ca CX EK' n k (X.tr pn xe) := ⟨g.kind, ⟨g.g.N, g.g.nd, g.g.sc, g.g.fn, g.g.calm, g.g.room, g.g.lk, pas⟩, own, ⟨w', hcx, hw'⟩, tak', g.stk, g.frm⟩
        exact (sSs body gb h8).run pins s σ H D I q⟩
      have R := ps_try_as (X := X) (x := xName 0) (n := z2) (c := .ref (xA X.K 0)) (i := i) (body := bd) (suite := []) (b₀ := .Return (some (.Tuple [.Attribute (.Name z2 zp1) "word" fp1, .Attribute (.Name z2 zp2) "at" fp2] tk tp)) rp) (np := px) (pos := tp2) (pos' := hp)
        (Wout := fun cls d _ H => EK cls d H)
        (tb := fun W D σ H => ∃ EK' : XK, (∀ cls d H σ', σ'.length = X.N.length → EK' cls d H → W cls d σ' H) ∧ tSs (zz X G.nm ca) (exOf (zz X G.nm ca) EK') (callsN G n) body D σ H)
        (ts := fun a cls d => tSeq (tRet (tTup (tCons (tXf a cls d (xA X.K 0) "word" (tVar i)) (tCons (tXf a cls d (xA X.K 0) "at" (tVar i)) tNil)))) tNext)
        g.stk g.frm (by rw [g.g.N]; exact g.g.nd) hN hloc ⟨g1, g2, .inl hglo⟩ g.tak hb hsu
      refine ps_w R fun D σ H q => ?_
      obtain ⟨m, st, h, rs, p⟩ := q
      unfold ex at p
      refine ⟨PDx X.K D, fun cls d H σ' hl hq => ?_, m, st, h, rs, try2_post p⟩
      obtain ⟨rfl, dd, v1, v2, rfl, hx, hrt⟩ := hq
      have hi : i < σ'.length := by rw [hl]; exact (List.getElem?_eq_some_iff.mp hN).1
      refine ⟨true, XC.exm, fun _ a ha => ?_, fun z => by cases z⟩
      refine ⟨.ref a, List.getElem?_set_self hi, rfl, rfl, dd, _, v1, rfl, hx, look_w v1 v2, .ref a, List.getElem?_set_self hi, rfl, rfl, dd, _, v2, rfl, hx, look_a v1 v2, ?_⟩
      exact ⟨by show 2 ≤ sizeLine; rw [sizeLine_eq]; omega, fun t ht => hrt t ht⟩
    · cases h
  | .nev, k, n, X, EK, py, g, h => by
    refine ps_w ps_never fun D σ H q => ?_
    obtain ⟨m, st, h, rs, p⟩ := q
    exact p
  | .pass, k, n, X, EK, py, g, h => by
    unfold chkS at h
    split at h
    · refine ps_w ps_pass fun D σ H q => ?_
      obtain ⟨m, st, h, rs, p⟩ := q
      exact p m H σ (Ext.refl _ _) rs
    · refine ps_w (ps_expr pe_str rfl) fun D σ H q => ?_
      obtain ⟨m, st, h, rs, p⟩ := q
      exact p m H σ (Ext.refl _ _) rs
    · cases h
theorem sSs : ∀ (ss : Ss) {k : Sc} {n : Nat} {X : Cx} {EK : XK} {py : List Stmt}, GoodS G ca CX EK n k X → chkSs G k ss py = true → PSs X py (tSs (zz X G.nm ca) (exOf (zz X G.nm ca) EK) (callsN G n) ss)
  | .nil, k, n, X, EK, py, g, h => by
    unfold chkSs at h
    cases py with
    | nil =>
      refine pss_w pss_nil fun D σ H q => ?_
      obtain ⟨m, st, h, rs, p⟩ := q
      exact p m H σ (Ext.refl _ _) rs
    | cons _ _ => cases h
  | .cons s ss, k, n, X, EK, py, g, h => by
    unfold chkSs at h
    cases py with
    | nil => cases h
    | cons p r =>
      simp only [Bool.and_eq_true] at h
      refine pss_w (pss_cons (sS s g h.1) (sSs ss g h.2)) fun D σ H q => ?_
      obtain ⟨m, st, h, rs, p⟩ := q
      unfold exs at p
      exact ⟨m, st, h, rs, seq_ok p rfl⟩
end
end
end MP

set_option Elab.async false
set_option linter.all false
set_option maxRecDepth 100000
set_option maxHeartbeats 4000000
set_option autoImplicit false
/-! MPp: every def of a checked table keeps its promise; the law. -/
namespace MP
open PySem PySem.Spec L2
open PyProof.Rows hiding St

/-! ### the static check of a def -/
def bOk (d : Fn) (e : He.DefD) : Prop := ∀ (kV doc pm : Value) (an : Option Addr) (cdv ct : Value) (us : List Value), us.length = d.ps.length → bindArgs (PySem.W.fnOf e.name e.qual e.params e.body e.scope .none kV doc pm an cdv ct) ⟨us, []⟩ = pure (d.ps.zip us)
inductive Bs : List Fn → List He.DefD → Prop
  | nil : Bs [] []
  | cons {d : Fn} {e : He.DefD} {ds : List Fn} {es : List He.DefD} : bOk d e → Bs ds es → Bs (d :: ds) (e :: es)
def chkF (G : Tab) (d : Fn) (e : He.DefD) : Bool := e.dfl.isEmpty && e.kwd.isEmpty && (match e.scope.kind with | .function => true | _ => false) && !e.scope.isCoroutine && !e.scope.isGenerator && decide d.nms.Nodup && decide (d.nms.take d.ps.length = d.ps) &&
  (d.ps.all fun x => decide (e.scope.names.lookup x = some .local) || decide (e.scope.names.lookup x = some .cell)) && (e.scope.names.all fun y => !decide (y.2 = .free)) && chkSs G ⟨d.nms, e.scope, fun _ => true⟩ d.body e.body &&
  (match d.cls with
    | none => decide (e.at_ = (d.name, none))
    | some c => decide (e.at_ = (c, some d.name)))
def chkFs (G : Tab) : List Fn → List He.DefD → Bool
  | [], [] => true
  | d :: ds, e :: es => chkF G d e && chkFs G ds es
  | _, _ => false
/-- a class's methods stand where the table says -/
def chkC1 (G : Tab) (c : Cl) : Bool := (match c.init with
    | none => true
    | some i => match G.fns[i]? with
      | some d => decide (d.cls = some c.name) && decide (d.name = ("__init__" : Str))
      | none => false) &&
  c.meths.all fun q => match G.fns[q.2]?, G.nm[q.1]? with
    | some d, some g => decide (d.cls = some c.name) && decide (d.name = g)
    | _, _ => false
def chkTab (G : Tab) (ds : List He.DefD) : Bool := decide G.nm.Nodup && chkFs G G.fns ds && G.cls.all (chkC1 G)
/-! ### the facts that the head is to show -/
def clFa (G : Tab) (c : Cl) : List He.Fa := [.glo c.name, .cls c.name] ++ (if c.init.isSome then [.mkr c.name] else []) ++ c.flds.map (fun f => .noat c.name (G.nm.getD f "")) ++ c.meths.map fun q => .meth c.name (G.nm.getD q.1 "")
def fasOf (G : Tab) : List He.Fa := (G.fns.filter fun d => d.cls.isNone).map (fun d => .glo d.name) ++ G.free.map .free ++ G.cls.flatMap (clFa G)
/-- a written value of the module -/
def gvB (K : PySem.W.Frag) : Nat → Val → Value → Bool
  | 0, _, _ => false
  | n + 1, v, u => match v, u with
    | .non, .none => true
    | .bl b, .bool c => b == c
    | .int i, .int j _ => decide (i = j)
    | .str s, .str z _ => decide (mk s = z)
    | .tup vs, .ref a => (match K.lookup a with
      | some ⟨.type c, none, .seq its _, _⟩ => decide (c = "tuple") && decide (its.size ≤ sizeLine) && decide (vs.length = its.toList.length) && (vs.zip its.toList).all fun q => gvB K n q.1 q.2
      | _ => false)
    | _, _ => false
def glob1 (K : PySem.W.Frag) (q : Str × Val) : Bool := match PySem.W.nsIn K mainGlobals q.1 with
  | some (some u) => gvB K 6 q.2 u
  | _ => false
def globsB (G : Tab) (K : PySem.W.Frag) : Bool := G.globs.all (glob1 K)
/-- the written dicts: their names mean them, their values -/
def dct1 (K : PySem.W.Frag) (q : Str × List (List Nat × Int)) : Bool := (match PySem.W.nsIn K mainGlobals q.1 with
  | some (some (.ref a)) => decide (a = He.ga K q.1)
  | _ => false) && q.2.all fun p => match PySem.W.nsIn K (He.ga K q.1) (mk p.1) with
  | some (some (.int j _)) => decide (p.2 = j)
  | _ => false
def dctsB (G : Tab) (K : PySem.W.Frag) : Bool := G.dcts.all (dct1 K)
def dctsO (G : Tab) (K : PySem.W.Frag) : List (Option (List (Option (Str × Int)))) := G.dcts.map fun q => He.dicW K (He.ga K q.1)
def dctsV (G : Tab) (w : World) : List (Option (List (Option (Str × Int)))) := G.dcts.map fun q => some (He.keysIn w.params (q.2.map fun p => mk p.1))
/-- the exception classes: what stands, the texts of their __init__ -/
def excsB (G : Tab) (K : PySem.W.Frag) : Bool := G.excs.all fun q => excB K G.file q.1 && decide (PySem.W.nsIn K mainGlobals "super" = some none)
def excsO (G : Tab) (K : PySem.W.Frag) : List (Option (Arguments × FuncBody × Scope)) := G.excs.map fun q => obsX K q.1
def excsV (G : Tab) : List (Option (Arguments × FuncBody × Scope)) := G.excs.map fun q => some (q.2.1, FuncBody.stmts q.2.2.1, q.2.2.2)
abbrev AlM : Type := He.AlD × (Bool × Bool × Bool) × List (Option (List (Option (Str × Int)))) × List (Option (Arguments × FuncBody × Scope))
def obsK (G : Tab) (ds : List He.DefD) (K : PySem.W.Frag) : AlM := (He.obsD (fasOf G) ds K, (globsB G K, dctsB G K, excsB G K), dctsO G K, excsO G K)
def obsM (n : Nat) (G : Tab) (ds : List He.DefD) (g : Addr → Option Obj) : AlM := obsK G ds (He.frG g (cStatics :: He.asD g n))
def hookM (n : Nat) (G : Tab) (ds : List He.DefD) : PySem.W.Hook where
  α := AlM
  obs := fun s => obsM n G ds s.heap.get?
  val := fun w => (He.valD ds, (true, true, true), dctsV G w, excsV G)
  says := fun w h => ∃ K : PySem.W.Frag, K.In h ∧ He.SaysD (fasOf G) ds K ∧ globsB G K = true ∧ dctsB G K = true ∧ dctsO G K = dctsV G w ∧ excsB G K = true ∧ excsO G K = excsV G
  of := fun _ _ e => ⟨_, He.frG_in, congrArg (fun z : AlM => z.1) e, congrArg (fun z : AlM => z.2.1.1) e, congrArg (fun z : AlM => z.2.1.2.1) e, congrArg (fun z : AlM => z.2.2.1) e, congrArg (fun z : AlM => z.2.1.2.2) e, congrArg (fun z : AlM => z.2.2.2) e⟩
  keeps := fun _ _ _ ⟨K, hK, c⟩ k => ⟨K, PySem.W.Frag.In.keeps hK k, c⟩
theorem obsM_eq {n : Nat} {G : Tab} {ds : List He.DefD} {g : Addr → Option Obj} {s : Shared} (h : ∀ a, g a = s.heap.get? a) : obsM n G ds g = (hookM n G ds).obs s := by
  have e : g = s.heap.get? := funext h
  rw [e] <;> rfl
/-! ### written values -/
def absG : Value → V
  | .none => .non
  | .bool b => .bl b
  | .int i _ => .int i
  | .str z _ => .str z
  | .ref a => .ref a
  | _ => .non
theorem gv_ok {K : PySem.W.Frag} : ∀ (n : Nat) (v : Val) (u : Value), gvB K n v u = true → RelV (absG u) u ∧ (∀ m H, RV K m H v (absG u)) ∧ ∀ vs, v = .tup vs → ∃ a o, absG u = .ref a ∧ K.lookup a = some o ∧ o.cls = .type "tuple" ∧ o.dict = none
  | 0, _, _, h => by cases h
  | n + 1, v, u, h => by
    unfold gvB at h
    split at h
    · exact ⟨rfl, fun _ _ => .non, fun _ e => by cases e⟩
    · rename_i b c
      obtain rfl : b = c := eq_of_beq h
      exact ⟨rfl, fun _ _ => .bl _, fun _ e => by cases e⟩
    · rename_i i j t
      obtain rfl : i = j := of_decide_eq_true h
      exact ⟨⟨_, rfl⟩, fun _ _ => .int _, fun _ e => by cases e⟩
    · rename_i s z t
      obtain rfl : mk s = z := of_decide_eq_true h
      exact ⟨⟨_, rfl⟩, fun _ _ => .str _, fun _ e => by cases e⟩
    · rename_i vs a
      split at h
      · rename_i c its k sl q
        simp only [Bool.and_eq_true, decide_eq_true_eq] at h
        obtain ⟨⟨⟨h1, h2⟩, h3⟩, h4⟩ := h
        have all : ∀ (vs : List Val) (us : List Value), vs.length = us.length → (vs.zip us).all (fun q => gvB K n q.1 q.2) = true → Vals (us.map absG) us ∧ ∀ m H, RVs K m H vs (us.map absG) := by
          intro vs
          induction vs with
          | nil =>
            intro us hl _
            cases us with
            | nil => exact ⟨.nil, fun _ _ => .nil⟩
            | cons _ _ => cases hl
          | cons v vs ih =>
            intro us hl ha
            cases us with
            | nil => cases hl
            | cons u us =>
              rw [List.zip_cons_cons, List.all_cons, Bool.and_eq_true] at ha
              obtain ⟨i1, i2, _⟩ := gv_ok n v u ha.1
              obtain ⟨i3, i4⟩ := ih us (by simpa using hl) ha.2
              exact ⟨.cons i1 i3, fun m H => .cons (i2 m H) (i4 m H)⟩
        obtain ⟨a1, a2⟩ := all vs its.toList h3 h4
        refine ⟨rfl, fun m H => .tup (.inr ⟨_, its, k, q, congrArg Value.type h1, rfl, h2, a1⟩) (a2 m H), fun _ _ => ⟨a, _, rfl, q, congrArg Value.type h1, rfl⟩⟩
      · cases h
    · cases h
/-! ### what stands -/
theorem nsIn_none {K : PySem.W.Frag} {a : Addr} {es : Array DictEntry} {n : Nat} {x : Str} {P : Params} {ks : List Str} (e : K.lookup a = some ⟨.type "dict", none, .dict es n, #[]⟩) (hk : es.toList.map He.keyOf = He.keysIn P ks) (hx : x ∉ ks) :
    PySem.W.nsIn K a x = some none := by
  have key : ∀ (l : List DictEntry) (ks : List Str), l.map He.keyOf = He.keysIn P ks → x ∉ ks → l.find? (·.key.isStr x) = none ∧ l.any (·.refKey) = false := by
    intro l
    induction l with
    | nil => intro _ _ _; exact ⟨rfl, rfl⟩
    | cons d l ih =>
      intro ks h hx
      cases ks with
      | nil => cases h
      | cons k ks =>
        have h1 : He.keyOf d :: l.map He.keyOf = some (k, PyData.keyHash P k) :: He.keysIn P ks := h
        injection h1 with h2 h3
        rw [List.mem_cons, not_or] at hx
        obtain ⟨i1, i2⟩ := ih ks h3 hx.2
        unfold He.keyOf at h2
        split at h2
        · rename_i z t q
          obtain ⟨h5, _⟩ := Prod.mk.inj (Option.some.inj h2)
          have e1 : d.key.isStr x = false := by
            rw [q]
            show (z == x) = false
            rw [h5]
            exact beq_eq_false_iff_ne.mpr fun y => hx.1 y.symm
          have e2 : d.refKey = false := by
            unfold DictEntry.refKey
            rw [q]
          exact ⟨by rw [List.find?_cons, e1]; exact i1, by rw [List.any_cons, e2, i2]; rfl⟩
        · cases h2
  obtain ⟨i1, i2⟩ := key es.toList ks hk hx
  unfold PySem.W.nsIn
  rw [e]
  dsimp only
  rw [i1, i2]
  rfl
structure Has (G : Tab) (ca : Nat → Addr) (fad : Nat → Addr) (w : World) (K : PySem.W.Frag) (mg : Str → Option Value) : Prop where
  dct : ∀ (g : Str) (kvs : List (List Nat × Int)), (g, kvs) ∈ G.dcts → ∃ a es n, mg g = some (.ref a) ∧ KDict K w a es n ∧
    ∀ s : List Nat, (∀ i, kvs.lookup s = some i → ∃ u, PySem.W.nsIn K a (mk s) = some (some u) ∧ RelV (.int i) u) ∧ (kvs.lookup s = none → PySem.W.nsIn K a (mk s) = some none)
  exc : ∀ c, (G.excs.map (·.1)).contains c = true → ExcC K G.file c ∧ mg "super" = none ∧ mg (xName c) = some (.ref (xA K c))
  nd : G.nm.Nodup
  free : ∀ x : Str, G.free.contains x = true → mg x = none
  glob : ∀ (i : Nat) (g : Str) (v : Val), G.globs[i]? = some (g, v) → ∃ x u, mg g = some u ∧ RelV x u ∧ (∀ m H, RV K m H v x) ∧ ∀ vs, v = .tup vs → ∃ a o, x = .ref a ∧ K.lookup a = some o ∧ o.cls = .type "tuple" ∧ o.dict = none
  fns : ∀ (f : Nat) (d : Fn), G.fns[f]? = some d → (∃ (x qual : Str) (params : Arguments) (body : List Stmt) (scope : Scope) (fd : FuncData), FunD K x qual params body scope [] [] (fad f) fd ∧ FnScope d.nms d.ps scope ∧
    chkSs G ⟨d.nms, scope, fun _ => true⟩ d.body body = true ∧ ∀ (kV doc pm : Value) (an : Option Addr) (cdv ct : Value) (us : List Value), us.length = d.ps.length → bindArgs (PySem.W.fnOf x qual params body scope .none kV doc pm an cdv ct) ⟨us, []⟩ = pure (d.ps.zip us)) ∧
    (d.cls = none → mg d.name = some (.ref (fad f)))
  cls : ∀ (c : Nat) (d : Cl), G.cls[c]? = some d → mg d.name = some (.ref (ca c)) ∧ Cls K (ca c) ∧ (∀ (f : Nat) (g : Str), d.flds.contains f = true → G.nm[f]? = some g → NoAttr K (ca c) g) ∧
    (∀ (i : Nat), d.init = some i → ∃ di, G.fns[i]? = some di ∧ Mk K (ca c) (fad i)) ∧
    (∀ (m i : Nat) (g : Str), d.meths.lookup m = some i → G.nm[m]? = some g → ∃ di, G.fns[i]? = some di ∧ Meth K (ca c) g (fad i))
/-- what the program must say where classes are raised -/
def PrgOk (G : Tab) (P : Program) : Prop := G.excs ≠ [] → P.main.file = G.file ∧ (P.main.scope.names.lookup ("super" : Str)).isSome = false
section
variable {G : Tab} {ca fad : Nat → Addr} {P : Program} {w : World} {K : PySem.W.Frag} {mg : Str → Option Value} {base : Heap}
def Lev (G : Tab) (ca fad : Nat → Addr) (P : Program) (w : World) (K : PySem.W.Frag) (mg : Str → Option Value) (base : Heap) (k : Nat) (f : Nat → List Val → Hs → R Val) : Prop := ∀ (i : Nat) (d : Fn), G.fns[i]? = some d →
  ∃ fd, (∃ oc od osl, K.lookup (fad i) = some ⟨oc, od, .func fd, osl⟩) ∧ PySem.W.keepIn K (.ref (fad i)) = true ∧ Binds K fd d.ps [] ∧ FnOk P w K mg base (L2.CX P w) k (fad i) fd d.ps (spF ⟨K, G.nm, ca⟩ d.ps.length (f i))
theorem fd_at {x qual : Str} {params : Arguments} {body : List Stmt} {scope : Scope} {f : Addr} {fd : FuncData} (F : FunD K x qual params body scope [] [] f fd) : ∃ oc od osl, K.lookup f = some ⟨oc, od, .func fd, osl⟩ := by
  obtain ⟨oc, od, dV, kV, doc, pm, an, cdv, ct, osl, e, lk, _⟩ := F.ex
  exact ⟨oc, od, osl, lk⟩
theorem lev_stk (hs : Has G ca fad w K mg) (k : Nat) : Lev G ca fad P w K mg base k (fun _ _ _ => .stk) := by
  intro i d hd
  obtain ⟨⟨x, qual, params, body, scope, fd, F, S, _, hb⟩, _⟩ := hs.fns i d hd
  refine ⟨fd, fd_at F, F.kp, F.bindsN hb, ⟨fun vs H Q E h => ?_, fun A outer s H args us vs Q E _ _ _ _ h => ?_⟩⟩
  · obtain ⟨m, h, as, r, rv, hl, _⟩ := h
    rw [← rv.len]
    exact hl
  · obtain ⟨m, h, as, r, rv, hl, p⟩ := h
    exact False.elim p
theorem link_of (hs : Has G ca fad w K mg) (hP : PrgOk G P) {n : Nat} (h1 : Lev G ca fad P w K mg base (n + 2) (callN G n)) (h2 : Lev G ca fad P w K mg base (n + 1) (callsN G n).i) : Link G ca (L2.CX P w) n P w K mg base := by
  refine ⟨hs.nd, hs.free, hs.glob, fun f d hd hc => ?_, fun c d hd => ?_, fun _ _ _ _ _ ⟨_, _, _, _, _, _, _, _, _, _, _, _, h⟩ => h, fun c hc => ?_, hs.dct⟩
  rotate_left 2
  · obtain ⟨x1, x2, x3⟩ := hs.exc c hc
    obtain ⟨y1, y2⟩ := hP (fun z => by rw [z] at hc; cases hc)
    exact ⟨⟨_, x1, y1⟩, x2, y2, x3⟩
  · obtain ⟨fd, _, kp, b, F⟩ := h1 f d hd
    exact ⟨fad f, fd, (hs.fns f d hd).2 hc, kp, b, F⟩
  · obtain ⟨c1, c2, c3, c4, c5⟩ := hs.cls c d hd
    refine ⟨c1, c2, c3, fun i hi => ?_, fun m i g hm hg => ?_⟩
    · obtain ⟨di, q, M⟩ := c4 i hi
      obtain ⟨fd, _, kp, b, F⟩ := h2 i di q
      exact ⟨fad i, fd, di, q, M, b, F⟩
    · obtain ⟨di, q, M⟩ := c5 m i g hm hg
      obtain ⟨fd, _, kp, b, F⟩ := h1 i di q
      exact ⟨fad i, fd, di, q, M, b, F⟩
theorem startS_rep {Z : Ev} {m : List Addr} {h : Hs} {H : Hp} {as : List Val} {vs : List V} {N : List Str} (r : Rep Z m h H) (rv : RVs Z.K m H as vs) : RepS Z m (startS N.length as) h (L2.start N vs) H := by
  refine ⟨r, ?_, fun i v q => ?_⟩
  · simp [startS, L2.start, rv.len]
  · unfold startS at q
    unfold L2.start
    by_cases hi : i < as.length
    · rw [List.getElem?_append_left (by simpa using hi)] at q
      rw [List.getElem?_append_left (by rw [List.length_map, ← rv.len]; exact hi)]
      rw [List.getElem?_map] at q ⊢
      obtain ⟨v', q1, q2⟩ := Option.map_eq_some_iff.mp q
      cases q2
      obtain ⟨x, z1, z2⟩ := rv.get q1
      exact ⟨x, by rw [z1]; rfl, z2⟩
    · rw [List.getElem?_append_right (by simpa using hi)] at q
      have := List.mem_of_getElem? q
      rw [List.mem_replicate] at this
      cases this.2
theorem lev_succ (hs : Has G ca fad w K mg) (hP : PrgOk G P) {n : Nat} (h1 : Lev G ca fad P w K mg base (n + 2) (callN G n)) (h2 : Lev G ca fad P w K mg base (n + 1) (callsN G n).i) : Lev G ca fad P w K mg base (n + 3) (callN G (n + 1)) := by
  have lk := link_of hs hP h1 h2
  intro f d hd
  obtain ⟨⟨x, qual, params, body, scope, fd, F, S, hc, hb⟩, _⟩ := hs.fns f d hd
  refine ⟨fd, fd_at F, F.kp, F.bindsN hb, F.ok S (fun vs H Q E h => ?_) fun cdv A outer s H vs Q E hr h => ?_⟩
  · obtain ⟨m, h, as, r, rv, hl, _⟩ := h
    rw [← rv.len]
    exact hl
  · obtain ⟨m, h, as, r, rv, hl, p⟩ := h
    have tk : Takes (cxOf (L2.CX P w) P w K mg base d.nms qual scope (fad f) cdv A outer s H E) (fun cls d _ H => E cls d H) := fun u s' x => XE.leave (X := cxOf (L2.CX P w) P w K mg base d.nms qual scope (fad f) cdv A outer s H E) (W := fun cls d _ H => E cls d H) (E := E) rfl rfl rfl (fun _ _ _ _ h => h) x
    refine ⟨tSs ⟨K, G.nm, ca⟩ (exOf ⟨K, G.nm, ca⟩ E) (callsN G n) d.body, ?_, ?_⟩
    · exact sSs (X := cxOf (L2.CX P w) P w K mg base d.nms qual scope (fad f) cdv A outer s H E) (CX := L2.CX P w) (EK := E) (k := ⟨d.nms, scope, fun _ => true⟩) d.body
        ⟨S.kind, ⟨rfl, S.nd, rfl, fun _ _ => rfl, rfl, hr, lk, passes_call tk fun _ _ _ _ h => h⟩, passes_of rfl, ⟨w, rfl, rfl⟩, tk, rfl, rfl⟩ hc
    · rw [callN_eq hd, run, if_pos hl] at p
      refine ⟨m, startS d.nms.length as, h, startS_rep r rv, ?_⟩
      cases q : exs (callsN G n) d.body (startS d.nms.length as) h with
      | nx st' h' => rw [q] at p; exact fun m' H' σ e r' => p m' H' e r'.rep _ .non
      | rt v h' => rw [q] at p; exact fun m' H' x e r' rv' => p m' H' e r' x rv'
      | bk _ _ => rw [q] at p; exact (show False from p).elim
      | ct _ _ => rw [q] at p; exact (show False from p).elim
      | exc c vs' h' => rw [q] at p; exact p
      | stk => rw [q] at p; exact p
theorem levs (hs : Has G ca fad w K mg) (hP : PrgOk G P) : ∀ n : Nat, Lev G ca fad P w K mg base (n + 2) (callN G n) ∧ Lev G ca fad P w K mg base (n + 1) (callsN G n).i
  | 0 => ⟨lev_stk hs 2, lev_stk hs 1⟩
  | n + 1 => ⟨lev_succ hs hP (levs hs hP n).1 (levs hs hP n).2, (levs hs hP n).1⟩
end
/-! ### from the head -/
def caOf (G : Tab) (K : PySem.W.Frag) (c : Nat) : Addr := He.ga K ((G.cls[c]?).elim "" (·.name))
def fadOf (ds : List He.DefD) (K : PySem.W.Frag) (f : Nat) : Addr := He.fAd K ((ds[f]?).elim ("", none) (·.at_))
section
variable {G : Tab} {ds : List He.DefD} {K : PySem.W.Frag} {h : Heap} {mg : Str → Option Value}
theorem chkFs_at : ∀ {fs : List Fn} {es : List He.DefD} {i : Nat} {d : Fn}, chkFs G fs es = true → Bs fs es → fs[i]? = some d → ∃ e, es[i]? = some e ∧ chkF G d e = true ∧ bOk d e
  | [], _, _, _, _, _, q => by cases q
  | f :: fs, [], _, _, c, _, _ => by cases c
  | f :: fs, e :: es, 0, d, c, b, q => by
    cases b with
    | cons b1 b2 =>
      cases q
      exact ⟨e, rfl, (Bool.and_eq_true_iff.mp c).1, b1⟩
  | f :: fs, e :: es, i + 1, d, c, b, q => by
    cases b with
    | cons b1 b2 =>
      obtain ⟨e', z1, z2, z3⟩ := chkFs_at (i := i) (Bool.and_eq_true_iff.mp c).2 b2 (by simpa using q)
      exact ⟨e', by simpa using z1, z2, z3⟩
theorem getD_of {f : Nat} {g : Str} (e : G.nm[f]? = some g) : G.nm.getD f "" = g := by
  rw [List.getD_eq_getElem?_getD, e]
  rfl
theorem lookup_mem2 {m i : Nat} : ∀ {l : List (Nat × Nat)}, l.lookup m = some i → (m, i) ∈ l
  | [], e => by cases e
  | q :: r, e => by
    rw [List.lookup_cons] at e
    split at e
    · rename_i z
      cases e
      have : m = q.1 := eq_of_beq z
      rw [this]
      exact List.mem_cons_self
    · exact List.mem_cons_of_mem _ (lookup_mem2 e)
theorem lookup_mem3 {s : List Nat} {i : Int} : ∀ {l : List (List Nat × Int)}, l.lookup s = some i → (s, i) ∈ l
  | [], e => by cases e
  | q :: r, e => by
    rw [List.lookup_cons] at e
    split at e
    · rename_i z
      cases e
      have : s = q.1 := eq_of_beq z
      rw [this]
      exact List.mem_cons_self
    · exact List.mem_cons_of_mem _ (lookup_mem3 e)
theorem has_of (ct : chkTab G ds = true) (bs : Bs G.fns ds) (X : K.In h) (N : h.Ns mainGlobals mg) (c : He.SaysD (fasOf G) ds K) (gl : globsB G K = true) {w : World} (db : dctsB G K = true) (dv : dctsO G K = dctsV G w) (hx : ∀ q ∈ G.excs, XLit q.1 q.2.1 q.2.2.1 q.2.2.2) (xb : excsB G K = true) (xv : excsO G K = excsV G) : Has G (caOf G K) (fadOf ds K) w K mg := by
  simp only [chkTab, Bool.and_eq_true, decide_eq_true_eq] at ct
  obtain ⟨⟨c1, c2⟩, c3⟩ := ct
  have fact : ∀ f ∈ fasOf G, f.ok K = true := fun f hf => by
    obtain ⟨i, hi⟩ := List.mem_iff_getElem?.mp hf
    exact c.fact i hi
  have cfact : ∀ (i : Nat) (d : Cl), G.cls[i]? = some d → ∀ f ∈ clFa G d, f.ok K = true := fun i d hd f hf => fact f (by
    unfold fasOf
    exact List.mem_append_right _ (List.mem_flatMap.mpr ⟨d, List.mem_of_getElem? hd, hf⟩))
  refine ⟨fun g kvs hm => ?_, fun c hc => ?_, c1, fun x hx => ?_, fun i g v hi => ?_, fun f d hd => ?_, fun i d hd => ?_⟩
  · have q := List.all_eq_true.mp db _ hm
    simp only [dct1, Bool.and_eq_true] at q
    obtain ⟨q1, q2⟩ := q
    have hmg : mg g = some (.ref (He.ga K g)) := by
      split at q1
      · rename_i a e
        rw [← of_decide_eq_true q1]
        exact PySem.W.mg_of X N e
      · cases q1
    obtain ⟨i, hi⟩ := List.mem_iff_getElem?.mp hm
    have hd : He.dicW K (He.ga K g) = some (He.keysIn w.params (kvs.map fun p => mk p.1)) := by
      have z : (dctsO G K)[i]? = (dctsV G w)[i]? := by rw [dv]
      unfold dctsO dctsV at z
      rw [List.getElem?_map, List.getElem?_map, hi] at z
      exact Option.some.inj z
    obtain ⟨es, n, D⟩ := He.dicW_ok hd
    have hk : es.toList.map He.keyOf = He.keysIn w.params (kvs.map fun p => mk p.1) := by
      unfold He.dicW at hd
      rw [D.at_] at hd
      dsimp only at hd
      split at hd
      · exact Option.some.inj hd
      · cases hd
    refine ⟨_, es, n, hmg, D, fun s => ⟨fun j hj => ?_, fun hj => ?_⟩⟩
    · have hmem : (s, j) ∈ kvs := lookup_mem3 hj
      have q3 := List.all_eq_true.mp q2 _ hmem
      dsimp only at q3
      split at q3
      · rename_i j' t e
        obtain rfl : j = j' := of_decide_eq_true q3
        exact ⟨_, e, t, rfl⟩
      · cases q3
    · refine nsIn_none D.at_ hk fun hin => ?_
      obtain ⟨p, hp, ep⟩ := List.mem_map.mp hin
      obtain ⟨s', j⟩ := p
      have es' : s' = s := mk_inj.mp ep
      subst es'
      rw [List.lookup_eq_none_iff] at hj
      have := hj _ hp
      simp at this
  · rw [List.contains_iff_mem, List.mem_map] at hc
    obtain ⟨q, hq, rfl⟩ := hc
    have z := List.all_eq_true.mp xb q hq
    simp only [Bool.and_eq_true, decide_eq_true_eq] at z
    obtain ⟨i, hi⟩ := List.mem_iff_getElem?.mp hq
    have ho : obsX K q.1 = some (q.2.1, FuncBody.stmts q.2.2.1, q.2.2.2) := by
      have y : (excsO G K)[i]? = (excsV G)[i]? := by rw [xv]
      unfold excsO excsV at y
      rw [List.getElem?_map, List.getElem?_map, hi] at y
      exact Option.some.inj y
    have XC := exc_fn (hx q hq) ho z.1
    exact ⟨XC, PySem.W.mg_none_of X N z.2, PySem.W.mg_of X N XC.glo⟩
  · refine He.free_ok X N (fact (.free x) ?_)
    unfold fasOf
    refine List.mem_append_left _ (List.mem_append_right _ (List.mem_map.mpr ⟨x, ?_, rfl⟩))
    simpa using hx
  · have q := List.all_eq_true.mp gl (g, v) (List.mem_of_getElem? hi)
    unfold glob1 at q
    split at q
    · rename_i u hu
      obtain ⟨z1, z2, z3⟩ := gv_ok 6 v u q
      exact ⟨absG u, u, PySem.W.mg_of X N hu, z1, z2, z3⟩
    · cases q
  · obtain ⟨e, z1, z2, z3⟩ := chkFs_at c2 bs hd
    obtain ⟨fd, F⟩ := c.def_ f z1
    simp only [chkF, Bool.and_eq_true, decide_eq_true_eq, List.isEmpty_iff, Bool.not_eq_true'] at z2
    obtain ⟨⟨⟨⟨⟨⟨⟨⟨⟨⟨y1, y2⟩, y3⟩, y4⟩, y5⟩, y6⟩, y7⟩, y8⟩, y9⟩, y10⟩, y11⟩ := z2
    have ef : fadOf ds K f = He.fAd K e.at_ := by unfold fadOf; rw [z1]; rfl
    refine ⟨⟨e.name, e.qual, e.params, e.body, e.scope, fd, ?_, ⟨?_, y4, y5, y6, y7, fun x hx => ?_, fun y hy => ?_⟩, y10, z3⟩, fun hc => ?_⟩
    · rw [ef]
      have e1 : e.dvs K = [] := by unfold He.DefD.dvs; rw [y1]; rfl
      have e2 : e.kws K = [] := by unfold He.DefD.kws; rw [y2]; rfl
      rw [e1, e2] at F
      exact F
    · split at y3
      · assumption
      · cases y3
    · have := List.all_eq_true.mp y8 x hx
      simpa using this
    · have := List.all_eq_true.mp y9 y hy
      simpa using this
    · rw [hc] at y11
      have y12 : e.at_ = (d.name, none) := by simpa using y11
      rw [ef, y12]
      refine He.glo_ok X N (fact (.glo d.name) ?_)
      unfold fasOf
      refine List.mem_append_left _ (List.mem_append_left _ (List.mem_map.mpr ⟨d, List.mem_filter.mpr ⟨List.mem_of_getElem? hd, by rw [hc]; rfl⟩, rfl⟩))
  · have ca : caOf G K i = He.ga K d.name := by unfold caOf; rw [hd]; rfl
    have cf := cfact i d hd
    have cc := List.all_eq_true.mp c3 d (List.mem_of_getElem? hd)
    simp only [chkC1, Bool.and_eq_true] at cc
    have at_of : ∀ (j : Nat) (dj : Fn), G.fns[j]? = some dj → dj.cls = some d.name → fadOf ds K j = He.ma K (He.ga K d.name) dj.name := fun j dj hj hc => by
      obtain ⟨e, z1, z2, z3⟩ := chkFs_at c2 bs hj
      simp only [chkF, Bool.and_eq_true] at z2
      have y11 := z2.2
      rw [hc] at y11
      have y12 : e.at_ = (d.name, some dj.name) := by simpa using y11
      unfold fadOf
      rw [z1]
      show He.fAd K e.at_ = _
      rw [y12]
      rfl
    rw [ca]
    refine ⟨He.glo_ok X N (cf _ (by simp [clFa])), He.cls_ok (cf _ (by simp [clFa])), fun f g hf hg => ?_, fun j hj => ?_, fun m j g hm hg => ?_⟩
    · refine He.noat_ok (cf _ ?_)
      unfold clFa
      refine List.mem_append_left _ (List.mem_append_right _ (List.mem_map.mpr ⟨f, by simpa using hf, ?_⟩))
      rw [getD_of hg]
    · have c4 := cc.1
      rw [hj] at c4
      dsimp only at c4
      cases q : G.fns[j]? with
      | none => rw [q] at c4; cases c4
      | some dj =>
        rw [q] at c4
        simp only [Bool.and_eq_true, decide_eq_true_eq] at c4
        refine ⟨dj, rfl, ?_⟩
        rw [at_of j dj q c4.1, c4.2]
        refine He.mkr_ok (cf _ ?_)
        unfold clFa
        refine List.mem_append_left _ (List.mem_append_left _ (List.mem_append_right _ ?_))
        rw [hj]
        exact List.mem_cons_self
    · have hmem := lookup_mem2 hm
      have c5 := List.all_eq_true.mp cc.2 (m, j) hmem
      dsimp only at c5
      rw [hg] at c5
      cases q : G.fns[j]? with
      | none => rw [q] at c5; cases c5
      | some dj =>
        rw [q] at c5
        simp only [Bool.and_eq_true, decide_eq_true_eq] at c5
        refine ⟨dj, rfl, ?_⟩
        rw [at_of j dj q c5.1, c5.2]
        refine He.meth_ok (cf _ ?_)
        unfold clFa
        refine List.mem_append_right _ (List.mem_map.mpr ⟨(m, j), hmem, ?_⟩)
        dsimp only
        rw [getD_of hg]
end
/-! ### the law -/
theorem walk_mp {l : PySem.W.OpenLaw} {n k : Nat} {q : Program} {loose : List Str} {XP : (Str → Option Value) → Heap → Prop} {d : DefRec} {x : Str} {G : Tab} {ds : List He.DefD} {hn : Nat} {f0 : Nat} {d0 : Fn}
    (hl : l.most = some n) (hn2 : n ≤ sizeLine) (hdf : d.params.defaults = []) (hr : Room (k + 2) callerA) (hf0 : G.fns[f0]? = some d0) (h0c : d0.cls = none) (h0n : d.name = d0.name) (h0p : d0.ps = [x])
    (ct : chkTab G ds = true) (bs : Bs G.fns ds) (hx : ∀ q ∈ G.excs, XLit q.1 q.2.1 q.2.2.1 q.2.2.2) (hP : PrgOk G l.prog)
    (end_ : ∀ ns : List Int, ns.length ≤ n → (∀ z ∈ ns, Builtin.Int.intBits z ≤ 1048576) → ∃ h', callN G k f0 [.ref 0] [.frz (ns.map Val.int)] = .ok (.bl true) h') :
    PySem.W.WalkO q loose XP (hookM hn G ds).says l.row.toRowW d [] (fun f vs => PySem.call f vs) := by
  refine Att.attach_callB hl hdf fun w s₀ s₁ mg mb fa o pm cd doc a vs ns Gr Y ho hd hcd hmg hobj hints hlen hbits hg => ?_
  obtain ⟨K, KX, c, gl, db, dv, xb, xv⟩ := Y
  have hs : Has G (caOf G K) (fadOf ds K) w K mg := has_of ct bs KX Gr.T.g c gl db dv hx xb xv
  have hfa : fa = fadOf ds K f0 := by
    have e := hmg
    rw [h0n, (hs.fns f0 d0 hf0).2 h0c] at e
    cases e
    rfl
  obtain ⟨⟨fx, qual, params, body, scope, fd, F, S, hc, hb⟩, _⟩ := hs.fns f0 d0 hf0
  subst hfa
  have hF : ∀ base : Heap, FnOk l.prog w K mg base (L2.CX l.prog w) (k + 2) (fadOf ds K f0) fd [x] (spF ⟨K, G.nm, caOf G K⟩ 1 (callN G k f0)) := fun base => by
    obtain ⟨fd', ⟨oc', od', osl', lk'⟩, _, _, F'⟩ := (levs (P := l.prog) (w := w) (base := base) hs hP k).1 f0 d0 hf0
    obtain ⟨oc, od, osl, lk⟩ := fd_at F
    rw [lk] at lk'
    cases lk'
    rw [h0p] at F'
    exact F'
  have hbd : ∀ (s : Shared) (u : Value), BindsTo s fd ⟨[u], []⟩ [(x, u)] := fun s u => by
    have z := F.bindsA hb s [u] (by rw [h0p]; rfl)
    rw [h0p] at z
    exact z
  refine law_call KX Gr.T.g Gr.T.b Gr.T.builtins Gr.T.nolimit hg hobj hints (Nat.le_trans hlen hn2) hr (fun base _ _ => hF base) hbd (fun H hO hS => ?_) fun H e s' ⟨_, _, _, _, _, _, _, _, _, _, _, _, z⟩ => z
  obtain ⟨h', e⟩ := end_ ns hlen hbits
  refine ⟨[a], [.frz (ns.map Val.int)], [.ref 0], ⟨hs.nd, rfl, fun i j b o1 o2 e1 e2 q1 q2 m1 m2 => ?_, fun i ob q => ?_⟩, .cons (.ref rfl) .nil, rfl, ?_⟩
  · cases i with
    | zero => cases q1; cases m1
    | succ i => cases q1
  · cases i with
    | zero =>
      cases q
      refine ⟨a, rfl, ns.map V.int, ?_, rvs_ints ns⟩
      rcases hS with (z | z) | z
      · rcases hO a with y | ⟨o', xs', y⟩
        · rw [y] at z; cases z
        · rw [y] at z; cases z
      · exact .inl z
      · exact .inr (.inr z)
    | succ i => cases q
  · rw [e]
    intro m' H' _ _ y ry
    cases ry
    rfl
end MP

set_option Elab.async false
set_option linter.all false
set_option maxRecDepth 100000
set_option maxHeartbeats 4000000
set_option autoImplicit false
/-! MPq: the laws' own two helpers, by values. -/
namespace MP
open PySem PySem.Spec L2

def drawFn : Fn := ⟨none, "_law_draw", ["_law_script"], ["_law_script", "_law_seed", "_law_cell"],
    .cons (.asg (.nm 1) (.int 7))
    (.cons (.fors (.nm 2) (.val (.var 0))
    (.cons (.asg (.nm 1) (.bin .Mod (.prim .int (.cons (.bin .Add (.bin .Add (.bin .Mult (.var 1) (.int 48271)) (.bin .Mod (.prim .abs (.cons (.prim .int (.cons (.var 2) .nil)) .nil)) (.int 65521))) (.int 1)) .nil)) (.int 2147483647))) .nil))
    (.cons (.ret (.lst (.cons (.lc (.prim .abs (.cons (.prim .int (.cons (.var 2) .nil)) .nil)) (.nm 2) (.val (.var 0)) .none [("_law_cell", 2)]) (.cons (.neg (.int 1)) (.cons (.int 0) (.cons (.var 1) .nil)))))) .nil))⟩
def takeFn : Fn := ⟨none, "_law_take", ["_law_draw_here", "_law_many"], ["_law_draw_here", "_law_many", "_law_found"],
    .cons (.ifs (.cmp .Eq (.ix (.var 0) (.int 2)) (.int 0))
    (.cons (.sub (.var 0) (.int 1) (.bin .Add (.ix (.var 0) (.int 1)) (.int 1)))
    (.cons (.ifs (.cmp .Lt (.ix (.var 0) (.int 1)) (.prim .len (.cons (.ix (.var 0) (.int 0)) .nil)))
    (.cons (.sub (.var 0) (.int 2) (.ix (.ix (.var 0) (.int 0)) (.ix (.var 0) (.int 1)))) .nil)
    (.nil))
    (.cons (.ifs (.cmp .Eq (.ix (.var 0) (.int 2)) (.int 0))
    (.cons (.sub (.var 0) (.int 3) (.bin .Mod (.prim .int (.cons (.bin .Add (.bin .Mult (.ix (.var 0) (.int 3)) (.int 48271)) (.int 11)) .nil)) (.int 2147483647)))
    (.cons (.sub (.var 0) (.int 2) (.ix (.var 0) (.int 3))) .nil))
    (.nil)) .nil)))
    (.nil))
    (.cons (.asg (.nm 2) (.bin .Mod (.prim .int (.cons (.ix (.var 0) (.int 2)) .nil)) (.var 1)))
    (.cons (.sub (.var 0) (.int 2) (.bin .FloorDiv (.ix (.var 0) (.int 2)) (.var 1)))
    (.cons (.ret (.var 2)) .nil)))⟩
/-- the draws' state -/
structure DS where
  scr : Ob
  cells : List Int
  p : Int
  l : Int
  s : Int
def DS.hs (d : DS) : Hs := [d.scr, .lst (d.cells.map Val.int), .lst [.ref 1, .int d.p, .int d.l, .int d.s]]
structure DS.ok (d : DS) : Prop where
  c : ∀ x ∈ d.cells, 0 ≤ x
  p : -1 ≤ d.p
  l : 0 ≤ d.l
  s : 0 ≤ d.s
  s' : d.s < 2147483647
theorem bits_lt {i : Int} (h : 0 ≤ i) (h2 : i < 2147483648) : bits i < 32 := by
  unfold bits
  by_cases h0 : i.natAbs = 0
  · rw [h0]; decide
  · exact (Nat.log2_lt h0).mpr (by omega)
theorem atI_nn {α : Type} {xs : List α} {i : Int} (h : 0 ≤ i) (h2 : i < xs.length) : atI xs i = xs[i.toNat]? := by
  unfold atI ixN
  rw [if_pos h, if_pos h2]
  rfl
def takeS (d : DS) (many : Int) : Int × DS :=
  let d := if d.l = 0 then
      let p := d.p + 1
      let l := if p < d.cells.length then d.cells[p.toNat]?.getD 0 else 0
      if l = 0 then { d with p := p, l := (d.s * 48271 + 11) % 2147483647, s := (d.s * 48271 + 11) % 2147483647 } else { d with p := p, l := l }
    else d
  (d.l % many, { d with l := d.l / many })
theorem atI_k {α : Type} (xs : List α) (k : Nat) : atI xs (k : Int) = xs[k]? := by
  by_cases h : k < xs.length
  · rw [atI_nn (by omega) (by omega)]; rfl
  · rw [List.getElem?_eq_none (by omega)]
    unfold atI ixN
    rw [if_pos (by omega), if_neg (by omega)]
    rfl
@[simp] theorem atI_2 {α : Type} (xs : List α) : atI xs 2 = xs[2]? := atI_k xs 2
@[simp] theorem atI_3 {α : Type} (xs : List α) : atI xs 3 = xs[3]? := atI_k xs 3
@[simp] theorem atI_4 {α : Type} (xs : List α) : atI xs 4 = xs[4]? := atI_k xs 4
@[simp] theorem atI_5 {α : Type} (xs : List α) : atI xs 5 = xs[5]? := atI_k xs 5
@[simp] theorem atI_6 {α : Type} (xs : List α) : atI xs 6 = xs[6]? := atI_k xs 6
@[simp] theorem atI_7 {α : Type} (xs : List α) : atI xs 7 = xs[7]? := atI_k xs 7
@[simp] theorem atI_8 {α : Type} (xs : List α) : atI xs 8 = xs[8]? := atI_k xs 8
@[simp] theorem atI_9 {α : Type} (xs : List α) : atI xs 9 = xs[9]? := atI_k xs 9
@[simp] theorem atI_0 {α : Type} (xs : List α) : atI xs 0 = xs[0]? := by
  by_cases h : 0 < xs.length
  · rw [atI_nn (by decide) (by omega)]; rfl
  · rw [List.getElem?_eq_none (by omega)]
    unfold atI ixN
    rw [if_pos (by decide), if_neg (by omega)]
    rfl
@[simp] theorem atI_1 {α : Type} (xs : List α) : atI xs 1 = xs[1]? := by
  by_cases h : 1 < xs.length
  · rw [atI_nn (by decide) (by omega)]; rfl
  · rw [List.getElem?_eq_none (by omega)]
    unfold atI ixN
    rw [if_pos (by decide), if_neg (by omega)]
    rfl
section
variable {G : Tab} {t n : Nat}
theorem take_eq (ht : G.fns[t]? = some takeFn) {d : DS} (ok : d.ok) {many : Int} (hm : 0 < many) (hb : bits many < 9000) (rest : Hs) :
    callN G (n + 1) t [.ref 2, .int many] (d.hs ++ rest) = .ok (.int (takeS d many).1) ((takeS d many).2.hs ++ rest) := by
  obtain ⟨scr, cells, p, l, s⟩ := d
  have hp : -1 ≤ p := ok.p
  have hs : bits s + bits 48271 < 1000000 := by
    have h1 := bits_lt (i := s) ok.s (by have := ok.s'; simp only at this; omega)
    have h2 : bits 48271 < 32 := bits_lt (by decide) (by decide)
    omega
  rw [callN_eq ht]
  by_cases h0 : l = 0
  · subst h0
    by_cases h1 : p + 1 < cells.length
    · have hc : atI (cells.map Val.int) (p + 1) = some (.int (cells[(p + 1).toNat]?.getD 0)) := by
        rw [atI_nn (by omega) (by simpa using h1), List.getElem?_map, List.getElem?_eq_getElem (by omega)]
        rfl
      by_cases h2 : cells[(p + 1).toNat]?.getD 0 = 0
      · rw [h2] at hc
        simp [takeFn, DS.hs, ixN, takeS, h1, h2, hc, hs, hm, hb]
      · simp [takeFn, DS.hs, ixN, takeS, h1, h2, hc, hm, hb]
    · simp [takeFn, DS.hs, ixN, takeS, h1, hs, hm, hb]
  · simp [takeFn, DS.hs, ixN, takeS, h0, hm, hb]
end
theorem takeS_ok {d : DS} (ok : d.ok) {many : Int} (hm : 0 < many) : (takeS d many).2.ok ∧ 0 ≤ (takeS d many).1 ∧ (takeS d many).1 < many ∧ (takeS d many).2.scr = d.scr ∧ (takeS d many).2.cells = d.cells := by
  obtain ⟨scr, cells, p, l, s⟩ := d
  have h1 := ok.c
  have h2 := ok.p
  have h3 := ok.l
  have h4 := ok.s
  have h5 := ok.s'
  dsimp only at h1 h2 h3 h4 h5
  have hc : ∀ i : Nat, 0 ≤ cells[i]?.getD 0 := fun i => by
    cases q : cells[i]? with
    | none => exact Int.le_refl 0
    | some x => exact h1 x (List.mem_of_getElem? q)
  have key : ∀ d : DS, d.ok → d.scr = scr → d.cells = cells → ({ d with l := d.l / many } : DS).ok ∧ 0 ≤ d.l % many ∧ d.l % many < many ∧ d.scr = scr ∧ d.cells = cells := fun d o a b =>
    ⟨⟨o.c, o.p, Int.ediv_nonneg o.l (by omega), o.s, o.s'⟩, Int.emod_nonneg _ (by omega), Int.emod_lt_of_pos _ hm, a, b⟩
  unfold takeS
  refine key _ ?_ ?_ ?_
  · dsimp only
    by_cases h0 : l = 0
    · rw [if_pos h0]
      by_cases h6 : (if p + 1 < (cells.length : Int) then cells[(p + 1).toNat]?.getD 0 else 0) = 0
      · rw [if_pos h6]
        exact ⟨h1, show -1 ≤ p + 1 by omega, show 0 ≤ (s * 48271 + 11) % 2147483647 from Int.emod_nonneg _ (by decide), show 0 ≤ (s * 48271 + 11) % 2147483647 from Int.emod_nonneg _ (by decide), show (s * 48271 + 11) % 2147483647 < 2147483647 from Int.emod_lt_of_pos _ (by decide)⟩
      · rw [if_neg h6]
        refine ⟨h1, show -1 ≤ p + 1 by omega, ?_, h4, h5⟩
        show 0 ≤ (if p + 1 < (cells.length : Int) then cells[(p + 1).toNat]?.getD 0 else 0)
        split
        · exact hc _
        · exact Int.le_refl 0
    · rw [if_neg h0]
      exact ok
  · dsimp only
    repeat' split
    all_goals rfl
  · dsimp only
    repeat' split
    all_goals rfl
/-! the draws' start -/
def absI (c : Int) : Int := if c < 0 then -c else c
def seedF (s c : Int) : Int := (s * 48271 + absI c % 65521 + 1) % 2147483647
theorem seedF_ok (s c : Int) : 0 ≤ seedF s c ∧ seedF s c < 2147483647 := ⟨Int.emod_nonneg _ (by decide), Int.emod_lt_of_pos _ (by decide)⟩
theorem mapI_abs (ns : List Int) : (ns.map absI).map Val.int = ns.map fun c => Val.int (absI c) := by rw [List.map_map]; rfl
@[simp] theorem beqs_self (vs : List Val) : Val.beqs vs vs = true := Val.beqs_refl vs
def drawD (ns : List Int) : DS := ⟨.frz (ns.map Val.int), ns.map absI, -1, 0, ns.foldl seedF 7⟩
section
variable {G : Tab} {t n : Nat}
theorem seed_loop (C : Calls) (all : List Val) : ∀ (ns : List Int) (s : Int) (o : Option Val), 0 ≤ s → s < 2147483647 →
    ∃ o', forV (forK (.nm 2) (exs C (.cons (.asg (.nm 1) (.bin .Mod (.prim .int (.cons (.bin .Add (.bin .Add (.bin .Mult (.var 1) (.int 48271)) (.bin .Mod (.prim .abs (.cons (.prim .int (.cons (.var 2) .nil)) .nil)) (.int 65521))) (.int 1)) .nil)) (.int 2147483647))) .nil))) (.lst 0 all) (ns.map Val.int) [some (.ref 0), some (.int s), o] [.frz all] = .nx [some (.ref 0), some (.int (ns.foldl seedF s)), o'] [.frz all]
  | [], s, o, _, _ => ⟨o, by simp [forV, Src.ok]⟩
  | c :: ns, s, o, h1, h2 => by
    obtain ⟨o', ih⟩ := seed_loop C all ns (seedF s c) (some (.int c)) (seedF_ok s c).1 (seedF_ok s c).2
    refine ⟨o', ?_⟩
    have hs : bits s + bits 48271 < 1000000 := by
      have h1 := bits_lt (i := s) h1 (by omega)
      have h2 : bits 48271 < 32 := bits_lt (by decide) (by decide)
      omega
    rw [List.foldl_cons, ← ih]
    simp [forV, Src.ok, forK, hs, seedF, absI]
theorem abs_loop (C : Calls) (all : List Val) (st : Sl) (hst : st = [some (.ref 0), some (.int 0), none] ∨ st.length = 3) : ∀ (ns acc : List Int), acc.length + ns.length ≤ 1000 →
    compV (stepG (.nm 2) (etc C .none) (ev C (.prim .abs (.cons (.prim .int (.cons (.var 2) .nil)) .nil))) st) (.lst 0 all) 1 (ns.map Val.int) [.frz all, .lst ((acc.map absI).map Val.int)] = .ok () [.frz all, .lst (((acc ++ ns).map absI).map Val.int)]
  | [], acc, _ => by simp [compV, Src.ok]
  | c :: ns, acc, h => by
    have ih := abs_loop C all st hst ns (acc ++ [c]) (by simp at h ⊢; omega)
    have h3 : 2 < st.length := by rcases hst with rfl | h <;> simp_all
    rw [List.append_assoc] at ih
    have e : [c] ++ ns = c :: ns := rfl
    rw [e] at ih
    rw [← ih]
    simp only [List.length_cons] at h
    have hl : acc.length < lim := by unfold lim; omega
    simp [compV, Src.ok, h3, hl, absI]
theorem draw_eq (ht : G.fns[t]? = some drawFn) (ns : List Int) (hn : ns.length ≤ 63) : callN G (n + 1) t [.ref 0] [.frz (ns.map Val.int)] = .ok (.ref 2) (drawD ns).hs := by
  rw [callN_eq ht]
  obtain ⟨o', e1⟩ := seed_loop (callsN G n) (ns.map Val.int) ns 7 none (by decide) (by decide)
  have e2 := abs_loop (callsN G n) (ns.map Val.int) [some (.ref 0), some (.int (ns.foldl seedF 7)), none] (.inr rfl) ns [] (by simp; omega)
  simp only [List.map_nil, List.nil_append] at e2
  simp [drawFn, e1, e2, lim, DS.hs, drawD]
theorem drawD_ok (ns : List Int) : (drawD ns).ok := by
  refine ⟨fun x hx => ?_, show (-1 : Int) ≤ -1 by decide, show (0 : Int) ≤ 0 by decide, ?_, ?_⟩
  · obtain ⟨c, _, rfl⟩ := List.mem_map.mp hx
    unfold absI
    split <;> omega
  · show 0 ≤ ns.foldl seedF 7
    have : ∀ (ns : List Int) (s : Int), 0 ≤ s → 0 ≤ ns.foldl seedF s := fun ns => by
      induction ns with
      | nil => exact fun s h => h
      | cons c r ih => exact fun s _ => ih _ (seedF_ok s c).1
    exact this ns 7 (by decide)
  · show ns.foldl seedF 7 < 2147483647
    have : ∀ (ns : List Int) (s : Int), s < 2147483647 → ns.foldl seedF s < 2147483647 := fun ns => by
      induction ns with
      | nil => exact fun s h => h
      | cons c r ih => exact fun s _ => ih _ (seedF_ok s c).2
    exact this ns 7 (by decide)
end
/-! the heap behind the draws -/
@[simp high] theorem hs_get (d : DS) (r : Hs) (n : Nat) : (d.hs ++ r)[n + 3]? = r[n]? := rfl
@[simp high] theorem hs_get3 (d : DS) (r : Hs) : (d.hs ++ r)[3]? = r[0]? := rfl
@[simp high] theorem hs_set (d : DS) (r : Hs) (n : Nat) (x : Ob) : (d.hs ++ r).set (n + 3) x = d.hs ++ r.set n x := rfl
@[simp high] theorem hs_set3 (d : DS) (r : Hs) (x : Ob) : (d.hs ++ r).set 3 x = d.hs ++ r.set 0 x := rfl
@[simp high] theorem hs_get' (d : DS) (r : Hs) (n : Nat) : (d.hs ++ r)[3 + n]? = r[n]? := by
  rw [Nat.add_comm]
  rfl
@[simp high] theorem hs_set' (d : DS) (r : Hs) (n : Nat) (x : Ob) : (d.hs ++ r).set (3 + n) x = d.hs ++ r.set n x := by
  rw [Nat.add_comm]
  rfl
@[simp high] theorem hs_len (d : DS) : d.hs.length = 3 := rfl
/-! a loop that comes to its end -/
def okO (P : Sl → Hs → Prop) (o : O) : Prop := match o with
  | .nx st h => P st h
  | .ct st h => P st h
  | _ => False
@[simp] theorem okO_nx (P : Sl → Hs → Prop) (st : Sl) (h : Hs) : okO P (.nx st h) = P st h := rfl
@[simp] theorem okO_ct (P : Sl → Hs → Prop) (st : Sl) (h : Hs) : okO P (.ct st h) = P st h := rfl
theorem forV_vals {step : Val → Sl → Hs → O} {all : List Val} {P : Sl → Hs → Prop} : ∀ (vs : List Val) {st : Sl} {h : Hs}, P st h → (∀ v ∈ vs, ∀ st h, P st h → okO P (step v st h)) →
    ∃ st' h', forV step (.vals all) vs st h = .nx st' h' ∧ P st' h'
  | [], st, h, p, _ => ⟨st, h, by simp [forV, Src.ok], p⟩
  | v :: vs, st, h, p, k => by
    have k1 := k v List.mem_cons_self st h p
    cases e : step v st h with
    | nx st1 h1 =>
      rw [e] at k1
      obtain ⟨st2, h2, e2, p2⟩ := forV_vals (all := all) vs k1 fun w hw => k w (List.mem_cons_of_mem _ hw)
      exact ⟨st2, h2, by rw [← e2]; simp [forV, Src.ok, e], p2⟩
    | ct st1 h1 =>
      rw [e] at k1
      obtain ⟨st2, h2, e2, p2⟩ := forV_vals (all := all) vs k1 fun w hw => k w (List.mem_cons_of_mem _ hw)
      exact ⟨st2, h2, by rw [← e2]; simp [forV, Src.ok, e], p2⟩
    | rt _ _ => rw [e] at k1; exact k1.elim
    | bk _ _ => rw [e] at k1; exact k1.elim
    | exc _ _ _ => rw [e] at k1; exact k1.elim
    | stk => rw [e] at k1; exact k1.elim
theorem pick {xs : List Val} {i : Int} (h : 0 ≤ i) (h2 : i < xs.length) : ∃ v, atI xs i = some v ∧ v ∈ xs := by
  rw [atI_nn h h2, List.getElem?_eq_getElem (by omega)]
  exact ⟨_, rfl, List.getElem_mem _⟩
theorem rangeV_mem {c : Int} : ∀ {n : Nat} {lo : Int} {v : Val}, v ∈ rangeV lo c n → ∃ i : Nat, i < n ∧ v = .int (lo + i * c)
  | n, lo, v, h => by
    obtain ⟨i, hi⟩ := List.mem_iff_getElem?.mp h
    obtain ⟨h1, h2⟩ := rangeV_get c n lo i v hi
    exact ⟨i, h1, h2⟩
theorem hlim_eq : hlim = 4611686018427387904 := rfl
theorem lim_val : lim = 16777216 := rfl
theorem bits_small {i : Int} (h : 0 ≤ i) (h2 : i ≤ 4294967296) : bits i < 9000 := by
  unfold bits
  by_cases h0 : i.natAbs = 0
  · rw [h0]; decide
  · have : i.natAbs.log2 < 34 := (Nat.log2_lt h0).mpr (by omega)
    omega
theorem bits_big {i : Int} (h : 0 ≤ i) (h2 : i ≤ 10000000000000000) : bits i < 9000 := by
  unfold bits
  by_cases h0 : i.natAbs = 0
  · rw [h0]; decide
  · have : i.natAbs.log2 < 54 := (Nat.log2_lt h0).mpr (by omega)
    omega
/-- a draw, with its answer named -/
theorem take_ex {G : Tab} {t n : Nat} (ht : G.fns[t]? = some takeFn) {d : DS} (ok : d.ok) {many : Int} (hm : 0 < many) (hb : many ≤ 10000000000000000) :
    ∃ (x : Int) (d' : DS), d'.ok ∧ 0 ≤ x ∧ x < many ∧ ∀ r : Hs, callN G (n + 1) t [.ref 2, .int many] (d.hs ++ r) = .ok (.int x) (d'.hs ++ r) :=
  ⟨_, _, (takeS_ok ok hm).1, (takeS_ok ok hm).2.1, (takeS_ok ok hm).2.2.1, fun r => take_eq ht ok hm (bits_big (by omega) hb) r⟩
/-! comprehensions that leave the heap as it is -/
theorem comp_pure {step : Val → Hs → R (Option Val)} {src : Src} {n : Nat} {h0 : Hs} {g : Val → Option Val} (hn : n = h0.length) (hok : ∀ acc, src.ok (h0 ++ [.lst acc]) = true) : ∀ (items acc : List Val),
    (∀ v ∈ items, ∀ acc, step v (h0 ++ [.lst acc]) = .ok (g v) (h0 ++ [.lst acc])) → acc.length + items.length ≤ lim → compV step src n items (h0 ++ [.lst acc]) = .ok () (h0 ++ [.lst (acc ++ items.filterMap g)])
  | [], acc, _, _ => by simp [compV, hok]
  | v :: vs, acc, hs, hl => by
    subst hn
    have e := hs v List.mem_cons_self acc
    simp only [List.length_cons] at hl
    have ih := fun acc hl => comp_pure (h0 := h0) rfl hok vs acc (fun w hw => hs w (List.mem_cons_of_mem _ hw)) hl
    cases q : g v with
    | none =>
      rw [q] at e
      simp [compV, hok, e, q, ih acc (by omega)]
    | some y =>
      rw [q] at e
      have i2 := ih (acc ++ [y]) (by simp; omega)
      have hl2 : acc.length < lim := by omega
      rw [List.append_assoc] at i2
      simp only [List.singleton_append] at i2
      simp [compV, hok, e, q, hl2, i2]
theorem comp_vals {step : Val → Hs → R (Option Val)} {all : List Val} {h0 : Hs} {g : Val → Option Val} (items : List Val)
    (hs : ∀ v ∈ items, ∀ acc, step v (h0 ++ [.lst acc]) = .ok (g v) (h0 ++ [.lst acc])) (hl : items.length ≤ lim) : compV step (.vals all) h0.length items (h0 ++ [.lst []]) = .ok () (h0 ++ [.lst (items.filterMap g)]) := by
  have := comp_pure (src := .vals all) (g := g) (h0 := h0) rfl (fun _ => rfl) items [] hs (by simpa using hl)
  simpa using this
theorem isInts_map : ∀ ns : List Int, isInts (ns.map Val.int) = some ns
  | [] => rfl
  | n :: ns => by
    rw [List.map_cons, isInts, isInts_map ns]
    rfl
theorem rangeV_map (n : Nat) : rangeV 0 1 n = (List.range n).map fun (i : Nat) => Val.int (i : Int) := by
  refine List.ext_getElem? fun i => ?_
  rw [List.getElem?_map]
  by_cases h : i < n
  · have h1 : i < (rangeV 0 1 n).length := by rw [rangeV_len]; exact h
    rw [List.getElem?_eq_getElem h1]
    obtain ⟨_, e⟩ := rangeV_get 1 n 0 i _ (List.getElem?_eq_getElem h1)
    rw [e]
    simp [h]
  · rw [List.getElem?_eq_none (by rw [rangeV_len]; omega), List.getElem?_eq_none (by simpa using h)]
    rfl
/-! a heap and what was put behind it -/
@[simp high] theorem app_get (h l : Hs) (k : Nat) : (h ++ l)[h.length + k]? = l[k]? := by
  rw [List.getElem?_append_right (Nat.le_add_right _ _)]
  congr 1
  omega
@[simp high] theorem app_get0 (h l : Hs) : (h ++ l)[h.length]? = l[0]? := app_get h l 0
@[simp high] theorem app_set (h l : Hs) (k : Nat) (x : Ob) : (h ++ l).set (h.length + k) x = h ++ l.set k x := by
  rw [List.set_append_right _ _ (Nat.le_add_right _ _)]
  congr 2
  omega
@[simp high] theorem app_set0 (h l : Hs) (x : Ob) : (h ++ l).set h.length x = h ++ l.set 0 x := app_set h l 0 x
theorem app_old {h l : Hs} {p : Nat} {o : Ob} (e : h[p]? = some o) : (h ++ l)[p]? = some o := by
  rw [List.getElem?_append_left (List.getElem?_eq_some_iff.mp e).1]
  exact e
/-- a comprehension that leaves the heap as it is -/
theorem lc_ev {C : Calls} {elt : E} {tg : Tg} {it : I} {cond : Eo} {own : List (Str × Nat)} {st : Sl} {h : Hs} {items : List Val} {g : Val → Option Val} (hi : evi C it st h = .ok (.vals items) h)
    (hs : ∀ v ∈ items, ∀ acc, stepG tg (etc C cond) (ev C elt) (wipeS st (own.map (·.2))) v (h ++ [.lst acc]) = .ok (g v) (h ++ [.lst acc])) (hl : items.length ≤ lim) :
    ev C (.lc elt tg it cond own) st h = .ok (.ref h.length) (h ++ [.lst (items.filterMap g)]) := by
  rw [q_ev_lc, hi, R.bind_ok]
  unfold lcG
  rw [show (Src.vals items).items = items from rfl, comp_vals items hs hl]
  rfl
@[simp] theorem eqW_ii (a b : Int) : eqW (.int a) (.int b) = decide (a = b) := rfl
@[simp] theorem eqW_ss (a b : List Nat) : eqW (.str a) (.str b) = decide (a = b) := rfl
/-! ints among ints -/
theorem any_int (ns : List Int) (o : Int) : (ns.map Val.int).any (fun z => eqW z (.int o)) = decide (o ∈ ns) := by
  induction ns with
  | nil => simp
  | cons n ns ih =>
    rw [List.map_cons, List.any_cons, ih]
    simp only [eqW, List.mem_cons]
    by_cases h : n = o
    · simp [h]
    · simp [h, Ne.symm h]
theorem flat_ints (ns : List Int) : (ns.map Val.int).all flat = true := by
  rw [List.all_map]
  exact List.all_eq_true.mpr fun _ _ => rfl
@[simp high] theorem in_tup (h : Hs) (ns : List Int) (o : Int) : inF h (.int o) (.tup (ns.map Val.int)) = some (decide (o ∈ ns)) := by
  simp only [inF, inGen, dctOf, seqOf, inSq, flat_ints, any_int, flat, if_true, and_self]
theorem in_lst {h : Hs} {p : Nat} {ns : List Int} (e : h[p]? = some (.lst (ns.map Val.int))) (o : Int) : inF h (.int o) (.ref p) = some (decide (o ∈ ns)) := by
  simp only [inF, inGen, dctOf, seqOf, inSq, flat_ints, any_int, flat, if_true, and_self, e]
/-- a comprehension with an invariant -/
theorem comp_inv {step : Val → Hs → R (Option Val)} {src : Src} {n : Nat} {P : List Val → Hs → Prop} (hP : ∀ acc h, P acc h → h[n]? = some (.lst acc) ∧ src.ok h = true) : ∀ (items acc : List Val) (h : Hs),
    (∀ v ∈ items, ∀ acc h, P acc h → (∃ h1, step v h = .ok none h1 ∧ P acc h1) ∨ ∃ y h1, step v h = .ok (some y) h1 ∧ h1[n]? = some (.lst acc) ∧ P (acc ++ [y]) (h1.set n (.lst (acc ++ [y])))) →
    P acc h → acc.length + items.length ≤ lim → ∃ acc' h', compV step src n items h = .ok () h' ∧ P acc' h' ∧ acc'.length ≤ acc.length + items.length
  | [], acc, h, _, p, _ => ⟨acc, h, by simp [compV, (hP acc h p).2], p, by simp⟩
  | v :: vs, acc, h, hs, p, hl => by
    simp only [List.length_cons] at hl
    have ok := (hP acc h p).2
    rcases hs v List.mem_cons_self acc h p with ⟨h1, e, p1⟩ | ⟨y, h1, e, e1, p1⟩
    · obtain ⟨acc', h', e2, p2, l2⟩ := comp_inv hP vs acc h1 (fun w hw => hs w (List.mem_cons_of_mem _ hw)) p1 (by omega)
      exact ⟨acc', h', by simp [compV, ok, e, e2], p2, by simp at l2 ⊢; omega⟩
    · obtain ⟨acc', h', e2, p2, l2⟩ := comp_inv hP vs (acc ++ [y]) _ (fun w hw => hs w (List.mem_cons_of_mem _ hw)) p1 (by simp; omega)
      have hl2 : acc.length < lim := by omega
      exact ⟨acc', h', by simp [compV, ok, e, e1, hl2, e2], p2, by simp at l2 ⊢; omega⟩
/-- a loop with an invariant by what is done so far -/
theorem forV_hist {step : Val → Sl → Hs → O} {src : Src} {P : List Val → Sl → Hs → Prop} (hok : ∀ done st h, P done st h → src.ok h = true) : ∀ (vs done : List Val) {st : Sl} {h : Hs}, P done st h → (∀ v ∈ vs, ∀ done st h, P done st h → okO (P (done ++ [v])) (step v st h)) →
    ∃ st' h', forV step src vs st h = .nx st' h' ∧ P (done ++ vs) st' h'
  | [], done, st, h, p, _ => ⟨st, h, by simp [forV, hok _ _ _ p], by rw [List.append_nil]; exact p⟩
  | v :: vs, done, st, h, p, k => by
    have k1 := k v List.mem_cons_self done st h p
    have ok := hok _ _ _ p
    have ea : done ++ v :: vs = (done ++ [v]) ++ vs := by simp
    cases e : step v st h with
    | nx st1 h1 =>
      rw [e] at k1
      obtain ⟨st2, h2, e2, p2⟩ := forV_hist hok vs (done ++ [v]) k1 fun w hw => k w (List.mem_cons_of_mem _ hw)
      exact ⟨st2, h2, by rw [← e2]; simp [forV, ok, e], by rw [ea]; exact p2⟩
    | ct st1 h1 =>
      rw [e] at k1
      obtain ⟨st2, h2, e2, p2⟩ := forV_hist hok vs (done ++ [v]) k1 fun w hw => k w (List.mem_cons_of_mem _ hw)
      exact ⟨st2, h2, by rw [← e2]; simp [forV, ok, e], by rw [ea]; exact p2⟩
    | rt _ _ => rw [e] at k1; exact k1.elim
    | bk _ _ => rw [e] at k1; exact k1.elim
    | exc _ _ _ => rw [e] at k1; exact k1.elim
    | stk => rw [e] at k1; exact k1.elim
/-! equal by data -/
theorem eqv_refl_int (i : Int) : PyData.eqv (.int i) (.int i) = true := by simp [PyData.eqv]
mutual
def dataOk : PyData → Bool
  | .dict _ => false
  | .list xs => dataAll xs
  | .tuple xs => dataAll xs
  | _ => true
def dataAll : List PyData → Bool
  | [] => true
  | x :: xs => dataOk x && dataAll xs
end
mutual
theorem eqv_refl : ∀ d : PyData, dataOk d = true → PyData.eqv d d = true
  | .none, _ => by simp [PyData.eqv]
  | .bool _, _ => by simp [PyData.eqv]
  | .int _, _ => by simp [PyData.eqv]
  | .str _, _ => by simp [PyData.eqv]
  | .list xs, h => by
    rw [dataOk] at h
    rw [PyData.eqv]
    exact eqvAll_refl xs h
  | .tuple xs, h => by
    rw [dataOk] at h
    rw [PyData.eqv]
    exact eqvAll_refl xs h
  | .dict _, h => by cases h
theorem eqvAll_refl : ∀ xs : List PyData, dataAll xs = true → PyData.eqvAll xs xs = true
  | [], _ => by simp [PyData.eqvAll]
  | x :: xs, h => by
    rw [dataAll, Bool.and_eq_true] at h
    rw [PyData.eqvAll, eqv_refl x h.1, eqvAll_refl xs h.2]
    rfl
end
/-- a loop with an invariant by the number of turns done -/
theorem forV_cnt {step : Val → Sl → Hs → O} {all : List Val} {P : Nat → Sl → Hs → Prop} (K : Nat) : ∀ (vs : List Val) (k : Nat) {st : Sl} {h : Hs}, P k st h → k + vs.length ≤ K → (∀ v ∈ vs, ∀ k st h, k < K → P k st h → okO (P (k + 1)) (step v st h)) →
    ∃ st' h', forV step (.vals all) vs st h = .nx st' h' ∧ P (k + vs.length) st' h'
  | [], k, st, h, p, _, _ => ⟨st, h, by simp [forV, Src.ok], p⟩
  | v :: vs, k, st, h, p, hk, s => by
    simp only [List.length_cons] at hk
    have k1 := s v List.mem_cons_self k st h (by omega) p
    have e : k + (v :: vs).length = k + 1 + vs.length := by simp only [List.length_cons]; omega
    rw [e]
    cases q : step v st h with
    | nx st1 h1 =>
      rw [q] at k1
      obtain ⟨st2, h2, e2, p2⟩ := forV_cnt (all := all) K vs (k + 1) k1 (by omega) fun w hw => s w (List.mem_cons_of_mem _ hw)
      exact ⟨st2, h2, by rw [← e2]; simp [forV, Src.ok, q], p2⟩
    | ct st1 h1 =>
      rw [q] at k1
      obtain ⟨st2, h2, e2, p2⟩ := forV_cnt (all := all) K vs (k + 1) k1 (by omega) fun w hw => s w (List.mem_cons_of_mem _ hw)
      exact ⟨st2, h2, by rw [← e2]; simp [forV, Src.ok, q], p2⟩
    | rt _ _ => rw [q] at k1; exact k1.elim
    | bk _ _ => rw [q] at k1; exact k1.elim
    | exc _ _ _ => rw [q] at k1; exact k1.elim
    | stk => rw [q] at k1; exact k1.elim
theorem atI_neg1 {α : Type} (xs : List α) : atI xs (-1) = xs.getLast? := by
  unfold atI ixN
  rw [if_neg (by decide), List.getLast?_eq_getElem?]
  cases xs with
  | nil => rfl
  | cons x xs =>
    rw [if_pos (by simp; omega)]
    show (x :: xs)[(-1 + ((x :: xs).length : Int)).toNat]? = _
    congr 1
    simp only [List.length_cons]
    omega
theorem pickN {xs : List Nat} {i : Int} (h : 0 ≤ i) (h2 : i < xs.length) : ∃ v, atI xs i = some v ∧ v ∈ xs := by
  rw [atI_nn h h2, List.getElem?_eq_getElem (by omega)]
  exact ⟨_, rfl, List.getElem_mem _⟩
theorem at_suf {α : Type} {T : List α} {k : Nat} {c : α} {r : List α} (e : T.drop k = c :: r) : atI T (k : Int) = some c ∧ T.drop (k + 1) = r ∧ T.length = k + (c :: r).length := by
  have h0 : T[k]? = some c := by
    have : (T.drop k)[0]? = some c := by rw [e]; rfl
    simpa using this
  have h1 := (List.getElem?_eq_some_iff.mp h0).1
  refine ⟨by rw [atI_k]; exact h0, by rw [← List.drop_drop, e]; rfl, ?_⟩
  have := congrArg List.length e
  rw [List.length_drop] at this
  omega
theorem cutL_len {α : Type} (xs : List α) (lo hi : Option Int) : (cutL xs lo hi).length ≤ xs.length := by
  unfold cutL
  rw [List.length_take, List.length_drop]
  omega
end MP

set_option Elab.async false
set_option linter.all false
set_option maxRecDepth 100000
set_option maxHeartbeats 4000000
set_option autoImplicit false
/-! MPr: values without references as data; == of such, of lists of such. -/
namespace MP
open PySem PySem.Spec L2
mutual
def toD : Val → PyData
  | .non => .none
  | .bl b => .bool b
  | .int i => .int i
  | .str s => .str ⟨s.toArray⟩
  | .tup vs => .tuple (toDs vs)
  | .ref _ => .none
def toDs : List Val → List PyData
  | [] => []
  | v :: vs => toD v :: toDs vs
end
mutual
/-- no references, signs in their range -/
def okV : Val → Bool
  | .str s => s.all fun c => decide (c < 1114112)
  | .tup vs => okVs vs
  | .ref _ => false
  | _ => true
def okVs : List Val → Bool
  | [] => true
  | v :: vs => okV v && okVs vs
end
mutual
def vdep : Val → Nat
  | .tup vs => vdeps vs + 1
  | _ => 0
def vdeps : List Val → Nat
  | [] => 0
  | v :: vs => max (vdep v) (vdeps vs)
end
mutual
/-- no truth values -/
def noB : Val → Bool
  | .bl _ => false
  | .tup vs => noBs vs
  | _ => true
def noBs : List Val → Bool
  | [] => true
  | v :: vs => noB v && noBs vs
end
mutual
theorem dat_V (h : Hs) : ∀ (v : Val) (n : Nat), okV v = true → vdep v < n → dat h n v = some (toD v)
  | .non, n + 1, _, _ => by simp only [dat, toD]
  | .bl _, n + 1, _, _ => by simp only [dat, toD]
  | .int _, n + 1, _, _ => by simp only [dat, toD]
  | .str _, n + 1, _, _ => by simp only [dat, toD]
  | .tup vs, n + 1, k, l => by
    rw [okV] at k
    rw [vdep] at l
    simp only [dat, toD]
    rw [dat_Vs h vs n k (by omega)]
    rfl
  | .ref _, n + 1, k, _ => by rw [okV] at k; cases k
  | _, 0, _, l => absurd l (Nat.not_lt_zero _)
theorem dat_Vs (h : Hs) : ∀ (vs : List Val) (n : Nat), okVs vs = true → vdeps vs < n → oall (dat h n) vs = some (toDs vs)
  | [], n, _, _ => by simp only [oall, toDs]
  | v :: vs, n, k, l => by
    rw [okVs, Bool.and_eq_true] at k
    rw [vdeps] at l
    simp only [oall, toDs]
    rw [dat_V h v n k.1 (by omega), dat_Vs h vs n k.2 (by omega)]
end
mutual
theorem lay_V : ∀ v : Val, okV v = true → (toD v).canLay0 = true ∧ (toD v).depth ≤ vdep v ∧ dataOk (toD v) = true
  | .non, _ => by simp [toD, PyData.canLay0, PyData.depth, dataOk]
  | .bl _, _ => by simp [toD, PyData.canLay0, PyData.depth, dataOk]
  | .int _, _ => by simp [toD, PyData.canLay0, PyData.depth, dataOk]
  | .str s, k => by
    rw [okV] at k
    refine ⟨?_, by simp [toD, PyData.depth], by simp [toD, dataOk]⟩
    rw [toD, PyData.canLay0]
    simpa [PyData.strOk] using k
  | .tup vs, k => by
    rw [okV] at k
    obtain ⟨h1, h2, h3⟩ := lay_Vs vs k
    simp [toD, PyData.canLay0, PyData.depth, dataOk, vdep, h1, h2, h3]
  | .ref _, k => by rw [okV] at k; cases k
theorem lay_Vs : ∀ vs : List Val, okVs vs = true → PyData.canLayAll0 (toDs vs) = true ∧ PyData.depthAll (toDs vs) ≤ vdeps vs ∧ dataAll (toDs vs) = true
  | [], _ => by simp [toDs, PyData.canLayAll0, PyData.depthAll, dataAll]
  | v :: vs, k => by
    rw [okVs, Bool.and_eq_true] at k
    obtain ⟨h1, h2, h3⟩ := lay_V v k.1
    obtain ⟨g1, g2, g3⟩ := lay_Vs vs k.2
    simp only [toDs, PyData.canLayAll0, PyData.depthAll, dataAll, vdeps, h1, h3, g1, g3, Bool.and_self, true_and, and_true]
    omega
end
mutual
theorem eqv_beq : ∀ v w : Val, okV v = true → okV w = true → noB v = true → noB w = true → PyData.eqv (toD v) (toD w) = Val.beq v w
  | .non, w, _, kw, _, bw => by cases w <;> simp_all [toD, PyData.eqv, Val.beq, noB, okV]
  | .bl _, _, _, _, b, _ => by rw [noB] at b; cases b
  | .int i, w, _, kw, _, bw => by
    cases w with
    | int j =>
      simp only [toD, PyData.eqv, Val.beq]
      by_cases e : i = j <;> simp [e]
    | _ => simp_all [toD, PyData.eqv, Val.beq, noB, okV]
  | .str s, w, _, kw, _, bw => by
    cases w with
    | str t =>
      simp only [toD, PyData.eqv, Val.beq]
      by_cases e : s = t
      · subst e; simp
      · have : ¬ (⟨s.toArray⟩ : Str) = ⟨t.toArray⟩ := fun q => e (by injection q with q; simpa using q)
        simp [e, this]
    | _ => simp_all [toD, PyData.eqv, Val.beq, noB, okV]
  | .tup vs, w, k, kw, b, bw => by
    cases w with
    | tup ws =>
      rw [okV] at k kw
      rw [noB] at b bw
      simp only [toD, PyData.eqv, Val.beq]
      exact eqv_beqs vs ws k kw b bw
    | _ => simp_all [toD, PyData.eqv, Val.beq, noB, okV]
  | .ref _, _, k, _, _, _ => by rw [okV] at k; cases k
theorem eqv_beqs : ∀ vs ws : List Val, okVs vs = true → okVs ws = true → noBs vs = true → noBs ws = true → PyData.eqvAll (toDs vs) (toDs ws) = Val.beqs vs ws
  | [], [], _, _, _, _ => by simp [toDs, PyData.eqvAll, Val.beqs]
  | [], _ :: _, _, _, _, _ => by simp [toDs, PyData.eqvAll, Val.beqs]
  | _ :: _, [], _, _, _, _ => by simp [toDs, PyData.eqvAll, Val.beqs]
  | v :: vs, w :: ws, k, kw, b, bw => by
    rw [okVs, Bool.and_eq_true] at k kw
    rw [noBs, Bool.and_eq_true] at b bw
    simp only [toDs, PyData.eqvAll, Val.beqs]
    rw [eqv_beq v w k.1 kw.1 b.1 bw.1, eqv_beqs vs ws k.2 kw.2 b.2 bw.2]
end
mutual
theorem beq_iff : ∀ v w : Val, Val.beq v w = true → v = w
  | .non, w, h => by cases w <;> simp_all [Val.beq]
  | .bl _, w, h => by cases w <;> simp_all [Val.beq]
  | .int _, w, h => by cases w <;> simp_all [Val.beq]
  | .str _, w, h => by cases w <;> simp_all [Val.beq]
  | .tup vs, w, h => by
    cases w with
    | tup ws =>
      rw [Val.beq] at h
      rw [beqs_iff vs ws h]
    | _ => simp_all [Val.beq]
  | .ref _, w, h => by cases w <;> simp_all [Val.beq]
theorem beqs_iff : ∀ vs ws : List Val, Val.beqs vs ws = true → vs = ws
  | [], [], _ => rfl
  | [], _ :: _, h => by simp [Val.beqs] at h
  | _ :: _, [], h => by simp [Val.beqs] at h
  | v :: vs, w :: ws, h => by
    rw [Val.beqs, Bool.and_eq_true] at h
    rw [beq_iff v w h.1, beqs_iff vs ws h.2]
end
instance : DecidableEq Val := fun v w => match e : Val.beq v w with
  | true => isTrue (beq_iff v w e)
  | false => isFalse fun q => by rw [q, Val.beq_refl] at e; cases e
theorem beq_dec (v w : Val) : Val.beq v w = decide (v = w) := by
  cases e : Val.beq v w with
  | true => exact (decide_eq_true (beq_iff v w e)).symm
  | false => exact (decide_eq_false fun q => by rw [q, Val.beq_refl] at e; cases e).symm
theorem beqs_dec (v w : List Val) : Val.beqs v w = decide (v = w) := by
  cases e : Val.beqs v w with
  | true => exact (decide_eq_true (beqs_iff v w e)).symm
  | false => exact (decide_eq_false fun q => by rw [q, Val.beqs_refl] at e; cases e).symm
theorem shaped_V {v : Val} (k : okV v = true) (d : vdep v ≤ 10) : SeqAt.shaped (toD v) = true := by
  obtain ⟨h1, h2, h3⟩ := lay_V v k
  unfold SeqAt.shaped
  rw [h1, Bool.true_and, decide_eq_true_eq]
  omega
theorem shaped_Vs {vs : List Val} (k : okVs vs = true) (d : vdeps vs ≤ 10) : SeqAt.shaped (.list (toDs vs)) = true := by
  obtain ⟨h1, h2, h3⟩ := lay_Vs vs k
  unfold SeqAt.shaped
  rw [PyData.canLay0, h1, PyData.depth, Bool.true_and, decide_eq_true_eq]
  omega
theorem deq_V {h : Hs} {v w : Val} (k : okV v = true) (kw : okV w = true) (b : noB v = true) (bw : noB w = true) (d : vdep v ≤ 10) (dw : vdep w ≤ 10) : deq h v w = some (decide (v = w)) := by
  unfold deq
  rw [dat_V h v 12 k (by omega), dat_V h w 12 kw (by omega)]
  simp only [shaped_V k d, shaped_V kw dw, and_self, if_true]
  rw [eqv_beq v w k kw b bw, beq_dec]
theorem deq_refl {h : Hs} {v : Val} (k : okV v = true) (d : vdep v ≤ 10) : deq h v v = some true := by
  unfold deq
  rw [dat_V h v 12 k (by omega)]
  simp only [shaped_V k d, and_self, if_true]
  rw [eqv_refl _ (lay_V v k).2.2]
/-- two tuples -/
theorem eq_tup {h : Hs} {vs ws : List Val} (k : okVs vs = true) (kw : okVs ws = true) (b : noBs vs = true) (bw : noBs ws = true) (d : vdeps vs ≤ 9) (dw : vdeps ws ≤ 9) : eqF h (.tup vs) (.tup ws) = some (decide (vs = ws)) := by
  show deq h (.tup vs) (.tup ws) = _
  rw [deq_V (by rw [okV]; exact k) (by rw [okV]; exact kw) (by rw [noB]; exact b) (by rw [noB]; exact bw) (by rw [vdep]; omega) (by rw [vdep]; omega)]
  congr 1
  by_cases e : vs = ws
  · subst e; simp
  · rw [decide_eq_false e, decide_eq_false fun q => e (by injection q)]
theorem eq_tup_refl {h : Hs} {vs : List Val} (k : okVs vs = true) (d : vdeps vs ≤ 9) : eqF h (.tup vs) (.tup vs) = some true := by
  show deq h (.tup vs) (.tup vs) = _
  exact deq_refl (by rw [okV]; exact k) (by rw [vdep]; omega)
/-- two lists -/
theorem eq_lst {h : Hs} {p q : Nat} {vs ws : List Val} (ep : h[p]? = some (.lst vs)) (eq : h[q]? = some (.lst ws)) (k : okVs vs = true) (kw : okVs ws = true) (b : noBs vs = true) (bw : noBs ws = true) (d : vdeps vs ≤ 9) (dw : vdeps ws ≤ 9) : eqF h (.ref p) (.ref q) = some (decide (vs = ws)) := by
  show deq h (.ref p) (.ref q) = _
  unfold deq
  have d1 : dat h 12 (.ref p) = some (.list (toDs vs)) := by simp only [dat]; rw [ep]; show (oall (dat h 11) vs).map _ = _; rw [dat_Vs h vs 11 k (by omega)]; rfl
  have d2 : dat h 12 (.ref q) = some (.list (toDs ws)) := by simp only [dat]; rw [eq]; show (oall (dat h 11) ws).map _ = _; rw [dat_Vs h ws 11 kw (by omega)]; rfl
  rw [d1, d2]
  simp only [shaped_Vs k (by omega), shaped_Vs kw (by omega), and_self, if_true]
  rw [PyData.eqv, eqv_beqs vs ws k kw b bw, beqs_dec]
theorem eq_lst_refl {h : Hs} {p q : Nat} {vs : List Val} (ep : h[p]? = some (.lst vs)) (eq : h[q]? = some (.lst vs)) (k : okVs vs = true) (d : vdeps vs ≤ 9) : eqF h (.ref p) (.ref q) = some true := by
  show deq h (.ref p) (.ref q) = _
  unfold deq
  have d1 : dat h 12 (.ref p) = some (.list (toDs vs)) := by simp only [dat]; rw [ep]; show (oall (dat h 11) vs).map _ = _; rw [dat_Vs h vs 11 k (by omega)]; rfl
  have d2 : dat h 12 (.ref q) = some (.list (toDs vs)) := by simp only [dat]; rw [eq]; show (oall (dat h 11) vs).map _ = _; rw [dat_Vs h vs 11 k (by omega)]; rfl
  rw [d1, d2]
  simp only [shaped_Vs k (by omega), and_self, if_true]
  rw [PyData.eqv, eqvAll_refl _ (lay_Vs vs k).2.2]
@[simp] theorem okVs_ints (ns : List Int) : okVs (ns.map Val.int) = true := by
  induction ns with
  | nil => rfl
  | cons n ns ih => rw [List.map_cons, okVs, ih]; rfl
@[simp] theorem noBs_ints (ns : List Int) : noBs (ns.map Val.int) = true := by
  induction ns with
  | nil => rfl
  | cons n ns ih => rw [List.map_cons, noBs, ih]; rfl
@[simp] theorem vdeps_ints (ns : List Int) : vdeps (ns.map Val.int) = 0 := by
  induction ns with
  | nil => rfl
  | cons n ns ih => rw [List.map_cons, vdeps, ih]; rfl
theorem okVs_all {vs : List Val} (h : ∀ v ∈ vs, okV v = true) : okVs vs = true := by
  induction vs with
  | nil => rfl
  | cons v vs ih => rw [okVs, h v List.mem_cons_self, ih fun w hw => h w (List.mem_cons_of_mem _ hw)]; rfl
theorem noBs_all {vs : List Val} (h : ∀ v ∈ vs, noB v = true) : noBs vs = true := by
  induction vs with
  | nil => rfl
  | cons v vs ih => rw [noBs, h v List.mem_cons_self, ih fun w hw => h w (List.mem_cons_of_mem _ hw)]; rfl
theorem vdeps_all {vs : List Val} {n : Nat} (h : ∀ v ∈ vs, vdep v ≤ n) : vdeps vs ≤ n := by
  induction vs with
  | nil => exact Nat.zero_le _
  | cons v vs ih =>
    have h1 := h v List.mem_cons_self
    have h2 := ih fun w hw => h w (List.mem_cons_of_mem _ hw)
    rw [vdeps]
    omega
/-- two tuples of numbers -/
theorem eq_ints (h : Hs) (a b : List Int) : eqF h (.tup (a.map Val.int)) (.tup (b.map Val.int)) = some (decide (a = b)) := by
  rw [eq_tup (by simp) (by simp) (by simp) (by simp) (by simp) (by simp)]
  congr 1
  by_cases e : a = b
  · subst e; simp
  · rw [decide_eq_false e, decide_eq_false fun q => e ((List.map_inj_right fun x y q => by injection q).mp q)]
@[simp] theorem lim_s : lim = 16777216 := rfl
@[simp] theorem hlim_s : hlim = 4611686018427387904 := rfl
/-! in, of texts, of data -/
theorem flat_strs (ts : List (List Nat)) : (ts.map Val.str).all flat = true := by
  rw [List.all_map]
  exact List.all_eq_true.mpr fun _ _ => rfl
theorem any_str (ts : List (List Nat)) (o : List Nat) : (ts.map Val.str).any (fun z => eqW z (.str o)) = decide (o ∈ ts) := by
  induction ts with
  | nil => simp
  | cons n ns ih =>
    rw [List.map_cons, List.any_cons, ih]
    simp only [eqW, List.mem_cons]
    by_cases h : n = o
    · simp [h]
    · simp [h, Ne.symm h]
theorem in_lstS {h : Hs} {p : Nat} {ts : List (List Nat)} (e : h[p]? = some (.lst (ts.map Val.str))) (o : List Nat) : inF h (.str o) (.ref p) = some (decide (o ∈ ts)) := by
  simp only [inF, inGen, dctOf, seqOf, inSq, flat_strs, any_str, flat, if_true, and_self, e]
theorem in_tupS (h : Hs) (ts : List (List Nat)) (o : List Nat) : inF h (.str o) (.tup (ts.map Val.str)) = some (decide (o ∈ ts)) := by
  simp only [inF, inGen, dctOf, seqOf, inSq, flat_strs, any_str, flat, if_true, and_self]
theorem any_D {x : Val} (k : okV x = true) (b : noB x = true) : ∀ {vs : List Val}, okVs vs = true → noBs vs = true → ((toDs vs).any fun z => PyData.eqv z (toD x)) = decide (x ∈ vs)
  | [], _, _ => by simp [toDs]
  | v :: vs, kw, bw => by
    rw [okVs, Bool.and_eq_true] at kw
    rw [noBs, Bool.and_eq_true] at bw
    rw [toDs, List.any_cons, any_D k b kw.2 bw.2, eqv_beq v x kw.1 k bw.1 b, beq_dec]
    by_cases e : v = x
    · subst e; simp
    · have e2 : ¬ x = v := fun q => e q.symm
      simp [e, e2]
theorem in_tupD {h : Hs} {x : Val} {vs : List Val} (nf : flat x = false) (k : okV x = true) (b : noB x = true) (d : vdep x ≤ 9) (kw : okVs vs = true) (bw : noBs vs = true) (dw : vdeps vs ≤ 9) : inF h x (.tup vs) = some (decide (x ∈ vs)) := by
  simp only [inF, inGen, dctOf, seqOf, inSq, nf, inDeep, Bool.false_eq_true, false_and, if_false]
  rw [dat_V h x 12 k (by omega), dat_Vs h vs 11 kw (by omega)]
  simp only [shaped_V k (by omega), shaped_Vs kw (by omega), and_self, if_true]
  rw [any_D k b kw bw]
theorem in_lstD {h : Hs} {p : Nat} {x : Val} {vs : List Val} (e : h[p]? = some (.lst vs)) (nf : flat x = false) (k : okV x = true) (b : noB x = true) (d : vdep x ≤ 9) (kw : okVs vs = true) (bw : noBs vs = true) (dw : vdeps vs ≤ 9) : inF h x (.ref p) = some (decide (x ∈ vs)) := by
  simp only [inF, inGen, dctOf, seqOf, inSq, e, nf, inDeep, Bool.false_eq_true, false_and, if_false]
  rw [dat_V h x 12 k (by omega), dat_Vs h vs 11 kw (by omega)]
  simp only [shaped_V k (by omega), shaped_Vs kw (by omega), and_self, if_true]
  rw [any_D k b kw bw]
/-! lengths of texts -/
theorem spl_len (S : List Nat) : ∀ (l : List Nat) (k : Nat) (acc : List Nat), ∀ p ∈ TL.spl S k acc l, p.length ≤ acc.length + l.length
  | [], k, acc, p, hp => by
    rw [TL.spl_nil] at hp
    rw [List.mem_singleton.mp hp]
    simp
  | c :: r, 0, acc, p, hp => by
    rw [TL.spl] at hp
    split at hp
    · rcases List.mem_cons.mp hp with e | hp
      · rw [e]; simp
      · have := spl_len S r _ [] p hp
        simp at this ⊢
        omega
    · have := spl_len S r 0 (acc ++ [c]) p hp
      simp at this ⊢
      omega
  | c :: r, k + 1, acc, p, hp => by
    rw [TL.spl] at hp
    have := spl_len S r k acc p hp
    simp at this ⊢
    omega
theorem spl_many (S : List Nat) : ∀ (l : List Nat) (k : Nat) (acc : List Nat), (TL.spl S k acc l).length ≤ l.length + 1
  | [], k, acc => by rw [TL.spl_nil]; simp
  | c :: r, 0, acc => by
    rw [TL.spl]
    split
    · have := spl_many S r (S.length - 1) []
      simp
      omega
    · have := spl_many S r 0 (acc ++ [c])
      simp
      omega
  | c :: r, k + 1, acc => by
    rw [TL.spl]
    have := spl_many S r k acc
    simp
    omega
theorem joinL_nil : ∀ ts : List (List Nat), TL.joinL [] ts = ts.flatten
  | [] => rfl
  | [p] => by simp [TL.joinL]
  | p :: q :: r => by
    rw [TL.joinL, joinL_nil (q :: r)]
    simp
theorem strip_len (s u : List Nat) : (Txt.stripChars ⟨s.toArray⟩ ⟨u.toArray⟩).cps.toList.length ≤ s.length := by
  have h := PyProof.Rows.len_stripChars ⟨s.toArray⟩ ⟨u.toArray⟩
  have e1 : (Txt.stripChars ⟨s.toArray⟩ ⟨u.toArray⟩).cps.toList.length = (Txt.stripChars ⟨s.toArray⟩ ⟨u.toArray⟩).length := Array.length_toList
  have e2 : (⟨s.toArray⟩ : Str).length = s.length := by show s.toArray.size = _; simp
  omega
theorem strip_mem (s u : List Nat) : ∀ c ∈ (Txt.stripChars ⟨s.toArray⟩ ⟨u.toArray⟩).cps.toList, c ∈ s := by
  intro c hc
  rw [Txt.stripChars, PyProof.Rows.stripBy_eq] at hc
  unfold Builtin.Str.strSub at hc
  rw [Array.toList_extract] at hc
  rw [List.extract_eq_take_drop] at hc
  simpa using List.mem_of_mem_drop (List.mem_of_mem_take hc)
/-! a comprehension whose items draw -/
theorem comp_draw {step : Val → Hs → R (Option Val)} {all : List Val} {r : Hs} {Q : Val → Prop} : ∀ (items acc : List Val) (d : DS) (j : Hs), d.ok → (∀ y ∈ acc, Q y) → acc.length + items.length ≤ 16777216 →
    (∀ v ∈ items, ∀ (d : DS) (acc : List Val) (j : Hs), d.ok → ∃ (y : Val) (d' : DS) (j' : Hs), d'.ok ∧ Q y ∧ step v (d.hs ++ (r ++ (.lst acc :: j))) = .ok (some y) (d'.hs ++ (r ++ (.lst acc :: j')))) →
    ∃ (ys : List Val) (d' : DS) (j' : Hs), d'.ok ∧ (∀ y ∈ ys, Q y) ∧ ys.length = acc.length + items.length ∧ compV step (.vals all) (3 + r.length) items (d.hs ++ (r ++ (.lst acc :: j))) = .ok () (d'.hs ++ (r ++ (.lst ys :: j')))
  | [], acc, d, j, ok, ha, _, _ => ⟨acc, d, j, ok, ha, by simp, by simp [compV, Src.ok]⟩
  | v :: vs, acc, d, j, ok, ha, hl, hs => by
    simp only [List.length_cons] at hl
    obtain ⟨y, d1, j1, ok1, hy, e1⟩ := hs v List.mem_cons_self d acc j ok
    obtain ⟨ys, d2, j2, ok2, h2, l2, e2⟩ := comp_draw (all := all) vs (acc ++ [y]) d1 j1 ok1 (fun z hz => by
      rcases List.mem_append.mp hz with h | h
      · exact ha z h
      · rw [List.mem_singleton.mp h]; exact hy) (by simp; omega) (fun w hw => hs w (List.mem_cons_of_mem _ hw))
    refine ⟨ys, d2, j2, ok2, h2, by rw [l2]; simp; omega, ?_⟩
    have l1 : acc.length < lim := by rw [lim_val]; omega
    rw [← e2]
    simp only [lim_val] at l1
    simp [compV, Src.ok, e1, l1]
theorem lc_draw {C : Calls} {elt : E} {tg : Tg} {it : I} {own : List (Str × Nat)} {st : Sl} {h0 : Hs} {d1 : DS} {r : Hs} {items : List Val} (Q : Val → Prop) (hi : evi C it st h0 = .ok (.vals items) (d1.hs ++ r)) (ok1 : d1.ok)
    (hs : ∀ v ∈ items, ∀ (d : DS) (acc : List Val) (j : Hs), d.ok → ∃ (y : Val) (d' : DS) (j' : Hs), d'.ok ∧ Q y ∧ stepG tg (etc C .none) (ev C elt) (wipeS st (own.map (·.2))) v (d.hs ++ (r ++ (.lst acc :: j))) = .ok (some y) (d'.hs ++ (r ++ (.lst acc :: j')))) (hl : items.length ≤ 16777216) :
    ∃ (ys : List Val) (d' : DS) (j' : Hs), d'.ok ∧ (∀ y ∈ ys, Q y) ∧ ys.length = items.length ∧ ev C (.lc elt tg it .none own) st h0 = .ok (.ref (3 + r.length)) (d'.hs ++ (r ++ (.lst ys :: j'))) := by
  obtain ⟨ys, d', j', ok', h2, l2, e2⟩ := comp_draw (step := stepG tg (etc C .none) (ev C elt) (wipeS st (own.map (·.2)))) (all := items) (r := r) (Q := Q) items [] d1 [] ok1 (fun _ h => absurd h List.not_mem_nil) (by simpa using hl) hs
  refine ⟨ys, d', j', ok', h2, by simpa using l2, ?_⟩
  rw [q_ev_lc, hi, R.bind_ok]
  unfold lcG
  rw [show (Src.vals items).items = items from rfl]
  simp [e2]
theorem eq_ii (h : Hs) (a b : Int) : eqF h (.int a) (.int b) = some (decide (a = b)) := rfl
theorem eq_ss (h : Hs) (a b : List Nat) : eqF h (.str a) (.str b) = some (decide (a = b)) := rfl
/-! signs -/
theorem chars_of {P : Nat → Prop} : ∀ {ys : List Val}, (∀ y ∈ ys, ∃ c, P c ∧ y = .str [c]) → ∃ s : List Nat, ys = s.map (fun c => Val.str [c]) ∧ ∀ c ∈ s, P c
  | [], _ => ⟨[], rfl, fun _ h => absurd h List.not_mem_nil⟩
  | y :: ys, h => by
    obtain ⟨s, e, hp⟩ := chars_of (ys := ys) fun z hz => h z (List.mem_cons_of_mem _ hz)
    obtain ⟨c, hc, rfl⟩ := h y List.mem_cons_self
    exact ⟨c :: s, by rw [e]; rfl, fun x hx => by
      rcases List.mem_cons.mp hx with rfl | hx
      · exact hc
      · exact hp x hx⟩
@[simp] theorem isStrs_chars : ∀ s : List Nat, isStrs (s.map fun c => Val.str [c]) = some (s.map fun c => [c])
  | [] => rfl
  | c :: s => by
    rw [List.map_cons, isStrs, isStrs_chars s]
    rfl
@[simp] theorem isStrs_strs : ∀ ts : List (List Nat), isStrs (ts.map Val.str) = some ts
  | [] => rfl
  | t :: ts => by
    rw [List.map_cons, isStrs, isStrs_strs ts]
    rfl
@[simp] theorem joinL_chars (s : List Nat) : TL.joinL [] (s.map fun c => [c]) = s := by
  rw [joinL_nil]
  induction s with
  | nil => rfl
  | cons c s ih => rw [List.map_cons, List.flatten_cons, ih]; rfl
@[simp] theorem sum_chars (s : List Nat) : ((s.map fun c => [c]).map List.length).sum = s.length := by
  induction s with
  | nil => rfl
  | cons c s ih =>
    rw [List.map_cons, List.map_cons, List.sum_cons, ih]
    simp
    omega
@[simp] theorem sum_ones (s : List Nat) : (s.map (List.length ∘ fun c => [c])).sum = s.length := by
  have := sum_chars s
  rw [List.map_map] at this
  exact this
/-! cuts -/
theorem cutL_to {α : Type} {xs : List α} {a : Int} (h : 0 ≤ a) : cutL xs none (some a) = xs.take a.toNat := by
  unfold cutL
  simp only [HT.sIx]
  rw [if_neg (by omega), List.drop_zero, Nat.sub_zero]
  by_cases l : a.toNat ≤ xs.length
  · rw [Nat.min_eq_left l]
  · rw [Nat.min_eq_right (by omega), List.take_length, List.take_of_length_le (by omega)]
theorem cutL_from {α : Type} {xs : List α} {a : Int} (h : 0 ≤ a) : cutL xs (some a) none = xs.drop a.toNat := by
  unfold cutL
  simp only [HT.sIx]
  rw [if_neg (by omega)]
  by_cases l : a.toNat ≤ xs.length
  · rw [Nat.min_eq_left l, List.take_of_length_le (by rw [List.length_drop]; omega)]
  · rw [Nat.min_eq_right (by omega), List.drop_length, List.take_nil, List.drop_eq_nil_of_le (by omega)]
/-- a short text of plain signs -/
def isW (k : Nat) : Val → Bool
  | .str w => decide (w.length ≤ k) && w.all fun c => decide (c < 128)
  | _ => false
theorem isW_of {k : Nat} {v : Val} (h : isW k v = true) : ∃ w, v = .str w ∧ w.length ≤ k ∧ ∀ c ∈ w, c < 128 := by
  cases v with
  | str w =>
    simp only [isW, Bool.and_eq_true, decide_eq_true_eq, List.all_eq_true] at h
    exact ⟨w, rfl, h.1, h.2⟩
  | _ => cases h
theorem pickW {k : Nat} {xs : List Val} {i : Int} (h : 0 ≤ i) (h2 : i < xs.length) (hx : xs.all (isW k) = true) : ∃ w, atI xs i = some (.str w) ∧ .str w ∈ xs ∧ w.length ≤ k ∧ ∀ c ∈ w, c < 128 := by
  obtain ⟨v, e, hm⟩ := pick h h2
  obtain ⟨w, rfl, h1, h2⟩ := isW_of (List.all_eq_true.mp hx v hm)
  exact ⟨w, e, hm, h1, h2⟩
/-! a statement that goes on -/
def okN (P : Sl → Hs → Prop) (o : O) : Prop := ∃ st h, o = .nx st h ∧ P st h
@[simp] theorem okN_nx (P : Sl → Hs → Prop) (st : Sl) (h : Hs) : okN P (.nx st h) = P st h := by
  refine propext ⟨fun ⟨a, b, e, p⟩ => ?_, fun p => ⟨st, h, rfl, p⟩⟩
  cases e
  exact p
theorem then_assoc (o : O) (f g : Sl → Hs → O) : (o.then f).then g = o.then fun st h => (f st h).then g := by cases o <;> rfl
end MP

set_option Elab.async false
set_option linter.all false
set_option maxRecDepth 100000
set_option maxHeartbeats 4000000
set_option autoImplicit false
/-! VEa: the same language with lists as values: a list has one owner, or it stands still for good. -/
namespace MP
open PySem PySem.Spec L2

/-- shared (stands still), owned by its place -/
inductive Ow where
  | sh | ow
  deriving DecidableEq
inductive PV where
  | non
  | bl (b : Bool)
  | int (i : Int)
  | str (s : List Nat)
  | tup (vs : List PV)
  | lst (o : Ow) (vs : List PV)
  | ref (k : Nat)
  | drw
mutual
def PV.beq : PV → PV → Bool
  | .non, .non => true
  | .bl a, .bl b => decide (a = b)
  | .int a, .int b => decide (a = b)
  | .str a, .str b => decide (a = b)
  | .tup a, .tup b => PV.beqs a b
  | .lst o a, .lst p b => decide (o = p) && PV.beqs a b
  | .ref a, .ref b => decide (a = b)
  | .drw, .drw => true
  | _, _ => false
def PV.beqs : List PV → List PV → Bool
  | [], [] => true
  | a :: r, b :: s => PV.beq a b && PV.beqs r s
  | _, _ => false
end
mutual
theorem PV.beq_eq : ∀ (a b : PV), PV.beq a b = true → a = b
  | .non, b, h => by cases b <;> simp_all [PV.beq]
  | .bl a, b, h => by cases b <;> simp_all [PV.beq]
  | .int a, b, h => by cases b <;> simp_all [PV.beq]
  | .str a, b, h => by cases b <;> simp_all [PV.beq]
  | .ref a, b, h => by cases b <;> simp_all [PV.beq]
  | .drw, b, h => by cases b <;> simp_all [PV.beq]
  | .tup a, b, h => by
    cases b with
    | tup b =>
      rw [PV.beq] at h
      rw [PV.beqs_eq a b h]
    | _ => simp [PV.beq] at h
  | .lst o a, b, h => by
    cases b with
    | lst p b =>
      rw [PV.beq, Bool.and_eq_true, decide_eq_true_eq] at h
      rw [h.1, PV.beqs_eq a b h.2]
    | _ => simp [PV.beq] at h
theorem PV.beqs_eq : ∀ (a b : List PV), PV.beqs a b = true → a = b
  | [], [], _ => rfl
  | [], _ :: _, h => by simp [PV.beqs] at h
  | _ :: _, [], h => by simp [PV.beqs] at h
  | a :: r, b :: s, h => by
    rw [PV.beqs, Bool.and_eq_true] at h
    rw [PV.beq_eq a b h.1, PV.beqs_eq r s h.2]
end
mutual
theorem PV.beq_refl : ∀ a : PV, PV.beq a a = true
  | .non => by simp [PV.beq]
  | .bl a => by simp [PV.beq]
  | .int a => by simp [PV.beq]
  | .str a => by simp [PV.beq]
  | .ref a => by simp [PV.beq]
  | .drw => by simp [PV.beq]
  | .tup a => by
    rw [PV.beq]
    exact PV.beqs_refl a
  | .lst o a => by
    rw [PV.beq, PV.beqs_refl a]
    simp
theorem PV.beqs_refl : ∀ a : List PV, PV.beqs a a = true
  | [] => by simp [PV.beqs]
  | a :: r => by
    rw [PV.beqs, PV.beq_refl a, PV.beqs_refl r]
    rfl
end
instance : DecidableEq PV := fun v w => match e : PV.beq v w with
  | true => isTrue (PV.beq_eq v w e)
  | false => isFalse fun q => by rw [q, PV.beq_refl] at e; cases e
@[simp] def PV.shr : PV → PV
  | .lst _ xs => .lst .sh xs
  | v => v
@[simp] def isOw : PV → Bool
  | .lst .ow _ => true
  | _ => false

/-! ### the state -/
inductive VOb where
  | dct (kvs : List (Ky × PV))
  | ins (c : Nat) (fs : List (Nat × PV))
/-- the objects; how often one was changed; how often a list of one was changed -/
structure VH where
  ob : List VOb
  t : Nat
  u : Nat
def DSo : Type := {d : DS // d.ok}
structure W where
  d : DSo
  H : VH
abbrev VSl := List (Option PV)
inductive VR (α : Type) where
  | ok (a : α) (s : VSl) (w : W)
  | exc (c : Nat) (vs : List PV) (s : VSl) (w : W)
  | stk
/-- a call's result -/
inductive VC where
  | ok (v : PV) (w : W)
  | exc (c : Nat) (vs : List PV) (w : W)
  | stk
def VR.bind {α β : Type} (r : VR α) (f : α → VSl → W → VR β) : VR β := match r with
  | .ok a s w => f a s w
  | .exc c vs s w => .exc c vs s w
  | .stk => .stk
@[simp] theorem VR.bind_ok {α β : Type} (a : α) (s : VSl) (w : W) (f : α → VSl → W → VR β) : (VR.ok a s w).bind f = f a s w := rfl
@[simp] theorem VR.bind_exc {α β : Type} (c : Nat) (vs : List PV) (s : VSl) (w : W) (f : α → VSl → W → VR β) : (VR.exc c vs s w : VR α).bind f = .exc c vs s w := rfl
@[simp] theorem VR.bind_stk {α β : Type} (f : α → VSl → W → VR β) : (VR.stk : VR α).bind f = .stk := rfl
/-- a place: of a slot, a field, a dict's entry -/
inductive Pl where
  | sl (i : Nat)
  | fl (k f : Nat)
  | en (k : Nat) (key : Ky)
/-- a value, or the place of a list that has an owner (and the time of the reading) -/
inductive RL where
  | v (x : PV)
  | p (q : Pl) (t : Nat)
@[simp] def mkR (q : Pl) (t : Nat) (v : PV) : RL := if isOw v = true then .p q t else .v v
def vget (kvs : List (Ky × PV)) (k : Ky) : Option PV := (kvs.find? fun kv => decide (kv.1 = k)).map (·.2)
def vput (kvs : List (Ky × PV)) (k : Ky) (v : PV) : List (Ky × PV) :=
  if (kvs.any fun kv => decide (kv.1 = k)) then kvs.map (fun kv => if kv.1 = k then (kv.1, v) else kv) else kvs ++ [(k, v)]
def vmerge (more : List (Ky × PV)) : List (Ky × PV) := more.foldl (fun acc kv => vput acc kv.1 kv.2) []
def vdel (kvs : List (Ky × PV)) (k : Ky) : List (Ky × PV) := kvs.filter fun kv => decide (kv.1 ≠ k)
@[simp] def toKyV : PV → Option Ky
  | .int i => some (.inl i)
  | .str s => some (.inr s)
  | _ => none
@[simp] def ofKyV : Ky → PV
  | .inl i => .int i
  | .inr s => .str s
@[simp] def vfput (f : Nat) (v : PV) : List (Nat × PV) → List (Nat × PV)
  | [] => [(f, v)]
  | (g, x) :: r => if g = f then (g, v) :: r else (g, x) :: vfput f v r
@[simp] def VH.upd (H : VH) (k : Nat) (o : VOb) : VH := ⟨H.ob.set k o, H.t + 1, H.u⟩
/-- a list at a place of an object changes (u) or stands still from now on, the object does not change -/
@[simp] def VH.upd0 (H : VH) (k : Nat) (o : VOb) (u : Nat) : VH := ⟨H.ob.set k o, H.t, H.u + u⟩
@[simp] def VH.add (H : VH) (o : VOb) : VH := ⟨H.ob ++ [o], H.t, H.u⟩
@[simp] def slG' (o : Option (Option PV)) : Option PV := match o with
  | some (some v) => some v
  | _ => none
@[simp] def obF (f : Nat) (o : Option VOb) : Option PV := match o with
  | some (.ins _ fs) => fs.lookup f
  | _ => none
@[simp] def obE (key : Ky) (o : Option VOb) : Option PV := match o with
  | some (.dct kvs) => vget kvs key
  | _ => none
@[simp] def getP (q : Pl) (s : VSl) (w : W) : Option PV := match q with
  | .sl i => slG' s[i]?
  | .fl k f => obF f w.H.ob[k]?
  | .en k key => obE key w.H.ob[k]?
@[simp] def setF' (k f : Nat) (v : PV) (u : Nat) (w : W) (o : Option VOb) : Option W := match o with
  | some (.ins c fs) => some ⟨w.d, w.H.upd0 k (.ins c (vfput f v fs)) u⟩
  | _ => none
@[simp] def setE' (k : Nat) (key : Ky) (v : PV) (u : Nat) (w : W) (o : Option VOb) : Option W := match o with
  | some (.dct kvs) => some ⟨w.d, w.H.upd0 k (.dct (vput kvs key v)) u⟩
  | _ => none
/-- another value at a place that holds one -/
@[simp] def setP (q : Pl) (v : PV) (u : Nat) (s : VSl) (w : W) : Option (VSl × W) := match q with
  | .sl i => some (s.set i (some v), w)
  | .fl k f => (setF' k f v u w w.H.ob[k]?).map fun w => (s, w)
  | .en k key => (setE' k key v u w w.H.ob[k]?).map fun w => (s, w)
@[simp] def okT (q : Pl) (t : Nat) (w : W) : Bool := match q with
  | .sl _ => true
  | _ => w.H.t == t
/-- looked at in passing -/
@[simp] def ldB (r : RL) (s : VSl) (w : W) : Option PV := match r with
  | .v x => some x
  | .p q t => if okT q t w = true then getP q s w else none
@[simp] def ofV {α : Type} (o : Option α) (s : VSl) (w : W) : VR α := match o with
  | some a => .ok a s w
  | none => .stk
@[simp] def ofR (o : Option PV) (s : VSl) (w : W) : VR RL := match o with
  | some a => .ok (.v a) s w
  | none => .stk
@[simp] def lB {β : Type} (K : PV → VSl → W → VR β) (r : RL) (s : VSl) (w : W) : VR β := match ldB r s w with
  | some x => K x s w
  | none => .stk
@[simp] def esc1 (q : Pl) (o : Option PV) (s : VSl) (w : W) : VR PV := match o with
  | some (.lst _ xs) => (match setP q (.lst .sh xs) 0 s w with
    | some (s, w) => .ok (.lst .sh xs) s w
    | none => .stk)
  | _ => .stk
/-- taken along: from now on the list stands still -/
@[simp] def lE (r : RL) (s : VSl) (w : W) : VR PV := match r with
  | .v x => .ok x s w
  | .p q t => if okT q t w = true then esc1 q (getP q s w) s w else .stk
/-! ### operations -/
mutual
def toDP : PV → PyData
  | .non => .none
  | .bl b => .bool b
  | .int i => .int i
  | .str s => .str ⟨s.toArray⟩
  | .tup vs => .tuple (toDPs vs)
  | .lst _ vs => .list (toDPs vs)
  | _ => .none
def toDPs : List PV → List PyData
  | [] => []
  | v :: vs => toDP v :: toDPs vs
end
mutual
/-- no references, signs in their range -/
def okP : PV → Bool
  | .str s => s.all fun c => decide (c < 1114112)
  | .tup vs => okPs vs
  | .lst _ vs => okPs vs
  | .ref _ => false
  | .drw => false
  | _ => true
def okPs : List PV → Bool
  | [] => true
  | v :: vs => okP v && okPs vs
end
mutual
def pdep : PV → Nat
  | .tup vs => pdeps vs + 1
  | .lst _ vs => pdeps vs + 1
  | _ => 0
def pdeps : List PV → Nat
  | [] => 0
  | v :: vs => max (pdep v) (pdeps vs)
end
mutual
/-- no truth value beside a number -/
def cmpt : PV → PV → Bool
  | .bl _, .int _ => false
  | .int _, .bl _ => false
  | .tup a, .tup b => cmpts a b
  | .lst _ a, .lst _ b => cmpts a b
  | _, _ => true
def cmpts : List PV → List PV → Bool
  | a :: r, b :: s => cmpt a b && cmpts r s
  | _, _ => true
end
mutual
def PV.flt : PV → PV
  | .tup vs => .tup (PV.flts vs)
  | .lst _ vs => .lst .sh (PV.flts vs)
  | v => v
def PV.flts : List PV → List PV
  | [] => []
  | v :: vs => PV.flt v :: PV.flts vs
end
/-- data -/
def niceP (v : PV) : Bool := okP v && decide (pdep v ≤ 10)
def deqV (a b : PV) : Option Bool := if niceP a = true ∧ niceP b = true ∧ cmpt a b = true then some (decide (a.flt = b.flt)) else none
def eqV (a b : PV) : Option Bool := match a, b with
  | .non, .non => some true
  | .int i, .int j => some (decide (i = j))
  | .bl i, .bl j => some (decide (i = j))
  | .str i, .str j => some (decide (i = j))
  | .non, .int _ => some false
  | .non, .bl _ => some false
  | .non, .str _ => some false
  | .int _, .non => some false
  | .bl _, .non => some false
  | .str _, .non => some false
  | .int _, .str _ => some false
  | .str _, .int _ => some false
  | .bl _, .str _ => some false
  | .str _, .bl _ => some false
  | a, b => deqV a b
@[simp] def flatP' : PV → Bool
  | .non => true
  | .bl _ => true
  | .int _ => true
  | .str _ => true
  | _ => false
def eqWV : PV → PV → Bool
  | .non, .non => true
  | .bl a, .bl b => a == b
  | .bl a, .int b => (if a then 1 else 0) == b
  | .int a, .bl b => a == (if b then 1 else 0)
  | .int a, .int b => decide (a = b)
  | .str a, .str b => decide (a = b)
  | _, _ => false
@[simp] def seqP : PV → Option (List PV)
  | .tup vs => some vs
  | .lst _ vs => some vs
  | _ => none
def inSV (x : PV) (vs : List PV) : Option Bool :=
  if flatP' x = true ∧ vs.all flatP' = true then some (vs.any fun z => eqWV z x)
  else if niceP x = true ∧ okPs vs = true ∧ pdeps vs ≤ 9 ∧ (vs.all fun z => cmpt z x) = true then some (vs.any fun z => decide (z.flt = x.flt)) else none
def inV (x y : PV) (H : VH) : Option Bool := match y with
  | .str s => (match x with
    | .str [c] => some (decide (c ∈ s))
    | _ => none)
  | .ref k => (match H.ob[k]? with
    | some (.dct kvs) => (toKyV x).map fun k => (vget kvs k).isSome
    | _ => none)
  | y => (match seqP y with
    | some vs => inSV x vs
    | none => none)
@[simp] def obl (o : Option Bool) : Option PV := o.map .bl
@[simp] def oblN (o : Option Bool) : Option PV := o.map fun b => .bl (!b)
@[simp] def isIntsV : List PV → Option (List Int)
  | [] => some []
  | .int i :: r => (isIntsV r).map (i :: ·)
  | _ => none
def ltTV (vs ws : List PV) : Option PV := match isIntsV vs, isIntsV ws with
  | some a, some b => some (.bl (HT.lexLt a b))
  | _, _ => none
@[simp] def ltVV : PV → PV → Option PV
  | .tup i, .tup j => ltTV i j
  | .int i, .int j => some (.bl (decide (i < j)))
  | .str i, .str j => some (.bl (ltL i j))
  | _, _ => none
@[simp] def leVV : PV → PV → Option PV
  | .int i, .int j => some (.bl (decide (i ≤ j)))
  | .str i, .str j => some (.bl (!ltL j i))
  | _, _ => none
@[simp] def isNonV : PV → Bool
  | .non => true
  | _ => false
@[simp] def cmpV (op : CmpOp) (a b : PV) (H : VH) : Option PV := match op with
  | .Eq => obl (eqV a b)
  | .NotEq => oblN (eqV a b)
  | .Lt => ltVV a b
  | .LtE => leVV a b
  | .Gt => ltVV b a
  | .GtE => leVV b a
  | .Is => (match b with | .non => some (.bl (isNonV a)) | _ => none)
  | .IsNot => (match b with | .non => some (.bl (!isNonV a)) | _ => none)
  | .In => obl (inV a b H)
  | .NotIn => oblN (inV a b H)
def catV {α : Type} (i j : List α) : Option (List α) := if i.length + j.length ≤ lim then some (i ++ j) else none
@[simp] def addV : PV → PV → Option PV
  | .int i, .int j => some (.int (i + j))
  | .str i, .str j => (catV i j).map .str
  | .tup i, .tup j => (catV i j).map .tup
  | .lst _ i, .lst _ j => (catV i j).map (.lst .ow)
  | _, _ => none
def mulI (i j : Int) : Option PV := if bits i + bits j < 1000000 then some (.int (i * j)) else none
def repV (i : List PV) (k : Int) : Option PV := if k < 1048576 ∧ -1048576 < k ∧ i.length * k.toNat ≤ lim then some (.lst .ow (rep i k)) else none
@[simp] def mulV : PV → PV → Option PV
  | .int i, .int j => mulI i j
  | .lst _ i, .int k => repV i k
  | _, _ => none
def divI (i j : Int) : Option PV := if 0 < j ∧ bits j < 9000 then some (.int (i / j)) else none
def modI (i j : Int) : Option PV := if 0 < j then some (.int (i % j)) else none
def powI (i j : Int) : Option PV := if 0 ≤ j ∧ j ≤ 1000000 ∧ i.natAbs < 2 ^ 64 then some (.int (i ^ j.toNat)) else none
def shlI (i j : Int) : Option PV := if 0 ≤ j ∧ j ≤ 1000000 ∧ i.natAbs < 2 ^ 64 then some (.int (i * 2 ^ j.toNat)) else none
def shrI (i j : Int) : Option PV := if 0 ≤ j then some (.int (i / 2 ^ j.toNat)) else none
@[simp] def intV (f : Int → Int → Option PV) : PV → PV → Option PV
  | .int i, .int j => f i j
  | _, _ => none
@[simp] def binV (op : Operator) (a b : PV) : Option PV := match op with
  | .Add => addV a b
  | .Sub => intV (fun i j => some (.int (i - j))) a b
  | .Mult => mulV a b
  | .FloorDiv => intV divI a b
  | .Mod => intV modI a b
  | .Pow => intV powI a b
  | .LShift => intV shlI a b
  | .RShift => intV shrI a b
  | .BitAnd => intV (fun i j => some (.int (Builtin.bitAnd i j))) a b
  | .BitOr => intV (fun i j => some (.int (Builtin.bitOr i j))) a b
  | .BitXor => intV (fun i j => some (.int (Builtin.bitXor i j))) a b
  | _ => none
def imulI (i j : Int) : Option PV := if (-(2 ^ 64) < i ∧ i < 2 ^ 64) ∨ (-(2 ^ 64) < j ∧ j < 2 ^ 64) then some (.int (i * j)) else none
/-- in place, of what is no list -/
@[simp] def ipV (op : Operator) (a b : PV) : Option PV := match op with
  | .Add => (match a, b with
    | .int i, .int j => some (.int (i + j))
    | .str i, .str j => (catV i j).map .str
    | _, _ => none)
  | .Sub => intV (fun i j => some (.int (i - j))) a b
  | .Mult => intV imulI a b
  | .FloorDiv => intV divI a b
  | .Mod => intV modI a b
  | .LShift => intV shlI a b
  | .RShift => intV shrI a b
  | .BitAnd => intV (fun i j => some (.int (Builtin.bitAnd i j))) a b
  | .BitOr => intV (fun i j => some (.int (Builtin.bitOr i j))) a b
  | .BitXor => intV (fun i j => some (.int (Builtin.bitXor i j))) a b
  | _ => none
def limO {α : Type} (n : Nat) (x : α) : Option α := if n ≤ lim then some x else none
@[simp] def truV (H : VH) : PV → Option Bool
  | .non => some false
  | .bl b => some b
  | .int i => some (i != 0)
  | .str s => limO s.length (!s.isEmpty)
  | .tup vs => some (!vs.isEmpty)
  | .lst _ vs => some (!vs.isEmpty)
  | .ref k => (match H.ob[k]? with
    | some (.dct kvs) => some (!kvs.isEmpty)
    | _ => none)
  | .drw => none
@[simp] def slV (a : PV) (lo hi : Option Int) : Option PV := match a with
  | .str s => limO s.length (.str (cutL s lo hi))
  | .tup vs => some (.tup (cutL vs lo hi))
  | .lst _ vs => some (.lst .ow (cutL vs lo hi))
  | _ => none
@[simp] def chr1 (o : Option Nat) : Option PV := o.map fun c => .str [c]
@[simp] def isStrsV : List PV → Option (List (List Nat))
  | [] => some []
  | .str i :: r => (isStrsV r).map (i :: ·)
  | _ => none
def intOf (s : List Nat) : Option PV := match intText? ⟨s.toArray⟩ with
  | some n => if s.length ≤ 640 then some (.int n) else none
  | none => none
def srtV (o : Option (List Int)) : Option PV := match o with
  | some ns => if ns.length < 64 then some (.lst .ow ((srtI ns).map .int)) else none
  | none => none
def isPrsV : List PV → Option (List (Int × Int))
  | [] => some []
  | .tup [.int i, .int j] :: r => (isPrsV r).map ((i, j) :: ·)
  | _ => none
def prP (p : Int × Int) : PV := .tup [.int p.1, .int p.2]
def srtPV (o : Option (List (Int × Int))) : Option PV := match o with
  | some ps => if ps.length < 64 ∧ ps.all prOk = true then some (.lst .ow ((srtP ps).map prP)) else none
  | none => none
def srtLV (vs : List PV) : Option PV := match isIntsV vs with
  | some ns => srtV (some ns)
  | none => srtPV (isPrsV vs)
def ggV (kvs : List (List Nat × Int)) (d : Option Int) (v : PV) : Option PV := match v with
  | .str s => (ggL kvs d s).map .int
  | _ => none
def maxDV (x y : PV) : Option PV := match x, y with
  | .lst _ vs, .int j => (isIntsV vs).map fun ns => .int ((mxI ns).getD j)
  | _, _ => none
def strOf (i : Int) : Option PV := if bits i < 1920 then some (.str (numS i)) else none
def mnV (f : List Int → Option Int) (o : Option (List Int)) : Option PV := match o with
  | some ns => (f ns).map .int
  | none => none
@[simp] def primP (p : Prim) (vs : List PV) (H : VH) : Option PV := match p, vs with
  | .len, [.str s] => limO s.length (.int s.length)
  | .len, [.tup vs] => some (.int vs.length)
  | .len, [.lst _ vs] => some (.int vs.length)
  | .len, [.ref k] => (match H.ob[k]? with
    | some (.dct kvs) => some (.int kvs.length)
    | _ => none)
  | .int, [.int i] => some (.int i)
  | .int, [.bl b] => some (.int (if b then 1 else 0))
  | .int, [.str s] => intOf s
  | .abs, [.int i] => some (.int (if i < 0 then -i else i))
  | .min, [.int i, .int j] => some (.int (if j < i then j else i))
  | .max, [.int i, .int j] => some (.int (if j > i then j else i))
  | .str, [.int i] => strOf i
  | .tuple, [.tup vs] => some (.tup vs)
  | .tuple, [.lst _ vs] => some (.tup vs)
  | .list, [.tup vs] => some (.lst .ow vs)
  | .list, [.lst _ vs] => some (.lst .ow vs)
  | .sum, [.lst _ vs] => (isIntsV vs).map fun ns => .int ns.sum
  | .sorted, [.lst _ vs] => srtLV vs
  | .sorted, [.ref k] => (match H.ob[k]? with
    | some (.dct kvs) => srtV (isIntsV (kvs.map fun q => ofKyV q.1))
    | _ => none)
  | .ord, [.str [c]] => some (.int c)
  | .min1, [.lst _ vs] => mnV mnI (isIntsV vs)
  | .min1, [.tup vs] => mnV mnI (isIntsV vs)
  | .max1, [.lst _ vs] => mnV mxI (isIntsV vs)
  | .max1, [.tup vs] => mnV mxI (isIntsV vs)
  | _, _ => none
def idxV (x : PV) : List PV → Nat → Option Nat
  | [], _ => none
  | v :: vs, i => if eqWV v x = true then some i else idxV x vs (i + 1)
def findS (s u : List Nat) : Int := Txt.find ⟨s.toArray⟩ ⟨u.toArray⟩
def startsS (s u : List Nat) : Bool := Txt.startswith ⟨s.toArray⟩ ⟨u.toArray⟩
def stripS (s : List Nat) : List Nat := (Txt.strip ⟨s.toArray⟩).cps.toList
def stripCS (s u : List Nat) : List Nat := (Txt.stripChars ⟨s.toArray⟩ ⟨u.toArray⟩).cps.toList
def lowS (s : List Nat) : List Nat := (Txt.lower ⟨s.toArray⟩).cps.toList
def upS (s : List Nat) : List Nat := (Txt.upper ⟨s.toArray⟩).cps.toList
def splV (s u : List Nat) : Option PV := if u.length ≠ 0 ∧ s.length + 2 ≤ lim ∧ u.all (· < 256) = true then some (.lst .ow ((TL.spl u 0 [] s).map .str)) else none
def lowV (s : List Nat) : Option PV := if s.length ≤ 5592405 then some (.str (lowS s)) else none
def upV (s : List Nat) : Option PV := if s.length ≤ 5592405 then some (.str (upS s)) else none
def joinV (s : List Nat) (o : Option (List (List Nat))) : Option PV := match o with
  | some ts => if (ts.map List.length).sum + ts.length * s.length ≤ lim then some (.str (TL.joinL s ts)) else none
  | none => none
def sindV (s u : List Nat) : Option PV := if 0 ≤ findS s u then some (.int (findS s u)) else none
def lidxV (vs : List PV) (x : PV) : Option PV := if flatP' x = true ∧ vs.all flatP' = true then (idxV x vs 0).map fun (i : Nat) => PV.int (i : Int) else none
@[simp] def plainO (o : Option PV) : Option PV := match o with
  | some v => if isOw v = true then none else some v
  | none => none
/-- methods that change nothing -/
@[simp] def pmV (p : PM) (x : PV) (vs : List PV) (H : VH) : Option PV := match p, x, vs with
  | .find, .str s, [.str u] => some (.int (findS s u))
  | .sindex, .str s, [.str u] => sindV s u
  | .startswith, .str s, [.str u] => some (.bl (startsS s u))
  | .split, .str s, [.str u] => splV s u
  | .strip, .str s, [] => limO s.length (.str (stripS s))
  | .stripC, .str s, [.str u] => limO s.length (.str (stripCS s u))
  | .lower, .str s, [] => lowV s
  | .upper, .str s, [] => upV s
  | .join, .str s, [.lst _ vs] => joinV s (isStrsV vs)
  | .index, .lst _ vs, [x] => lidxV vs x
  | .get, .ref k, [x] => (match H.ob[k]?, toKyV x with
    | some (.dct kvs), some key => plainO (some ((vget kvs key).getD .non))
    | _, _ => none)
  | .get2, .ref k, [x, d] => (match H.ob[k]?, toKyV x with
    | some (.dct kvs), some key => plainO (some ((vget kvs key).getD d))
    | _, _ => none)
  | _, _, _ => none
/-- the receiver is of the method's type -/
@[simp] def pmT' (p : PM) (x : PV) (H : VH) : Bool := match p, x with
  | .index, .lst _ _ => true
  | .get, .ref k => (match H.ob[k]? with | some (.dct _) => true | _ => false)
  | .get2, .ref k => (match H.ob[k]? with | some (.dct _) => true | _ => false)
  | .dpop, .ref k => (match H.ob[k]? with | some (.dct _) => true | _ => false)
  | .index, _ => false
  | .get, _ => false
  | .get2, _ => false
  | .dpop, _ => false
  | .append, _ => false
  | .extend, _ => false
  | .pop, _ => false
  | _, .str _ => true
  | _, _ => false
@[simp] def gixV (g : Val) (x : PV) : Option PV := match g, x with
  | .tup vs, .str s => (match isStrs vs with
    | some ts => (match ts.findIdx? (fun t => decide (t = s)) with
      | some j => some (.int (j : Nat))
      | none => none)
    | none => none)
  | .tup vs, .int i => (match isInts vs with
    | some ns => if i ∈ ns then some (.int (ns.idxOf i : Nat)) else none
    | none => none)
  | _, _ => none
@[simp] def isiV (H : VH) (t : Ty) : PV → Option Bool
  | .non => some false
  | .bl _ => some (decide (t = .bool ∨ t = .int))
  | .int _ => some (decide (t = .int))
  | .str _ => some (decide (t = .str))
  | .tup _ => some (decide (t = .tuple))
  | .lst _ _ => some (decide (t = .list))
  | .ref k => (match H.ob[k]? with
    | some (.dct _) => some false
    | _ => none)
  | .drw => none
/-- x + y.replace .. -/
def catRV (yz : List (List Nat × List Nat)) (x y : PV) : Option PV := match y with
  | .str t => (match replF yz t with
    | some u => addV x (.str u)
    | none => none)
  | _ => none
/-- f-strings -/
def fmtV (w : Nat) (v : PV) : Option PV := match v with
  | .str s => if w = 0 ∧ s.length ≤ lim then some (.str s) else none
  | .int i => if bits i < 1920 ∧ (w = 0 ∨ 0 ≤ i) then some (.str (if w = 0 then numS i else padS w i)) else none
  | _ => none
def jsV (vs : List PV) : Option PV := match isStrsV vs with
  | some ts => if (ts.map List.length).sum ≤ lim then some (.str ts.flatten) else none
  | none => none
mutual
def pvOf : Val → Option PV
  | .non => some .non
  | .bl b => some (.bl b)
  | .int i => some (.int i)
  | .str s => some (.str s)
  | .tup vs => (pvsOf vs).map .tup
  | .ref _ => none
def pvsOf : List Val → Option (List PV)
  | [] => some []
  | v :: vs => match pvOf v, pvsOf vs with
    | some p, some ps => some (p :: ps)
    | _, _ => none
end
end MP

set_option Elab.async false
set_option linter.all false
set_option maxRecDepth 100000
set_option maxHeartbeats 4000000
set_option autoImplicit false
/-! VEb: the evaluator by values. -/
namespace MP
open PySem PySem.Spec L2

structure VCl where
  f : Nat → List PV → W → VC
  i : Nat → List PV → W → VC
  meth : Nat → Nat → Option Nat
  init : Nat → Option Nat
  glob : Nat → Option Val
  fldok : Nat → Nat → Bool
  tk : Option Nat
def tkL (tk : Nat) : Nat → Option Nat
  | 0 => none
  | _ + 1 => some tk
def tkM (many : Int) : Int := if 0 < many then many else 1
theorem tkM_pos (many : Int) : 0 < tkM many := by unfold tkM; split <;> omega
def takeO (d : DSo) (many : Int) : Int × DSo := ((takeS d.1 (tkM many)).1, ⟨(takeS d.1 (tkM many)).2, (takeS_ok d.2 (tkM_pos many)).1⟩)
/-- what is walked; if it is a list of an object: the count of changes of such -/
structure VSrc where
  vs : List PV
  g : Option Nat
@[simp] def grd (g : Option Nat) (w : W) : Bool := match g with
  | none => true
  | some u => w.H.u == u
@[simp] def wipeV (s : VSl) : List Nat → VSl
  | [] => s
  | v :: vs => (wipeV s vs).set v none
/-- the slots of js as they were -/
@[simp] def backV (s0 s : VSl) : List Nat → VSl
  | [] => s
  | j :: js => (backV s0 s js).set j (plainO (slG' s0[j]?))
@[simp] def setTsV : List Nat → List PV → VSl → Option VSl
  | [], [], s => some s
  | j :: js, v :: vs, s => setTsV js vs (s.set j (some v))
  | _, _, _ => none
@[simp] def setTV (t : Tg) (v : PV) (s : VSl) : Option VSl := match t with
  | .nm i => some (s.set i (some v))
  | .tup js => match v with
    | .tup vs => setTsV js vs s
    | _ => none
def noXV {α : Type} (r : VR α) : VR α := match r with
  | .ok a s w => .ok a s w
  | _ => .stk
@[simp] theorem noXV_ok {α : Type} (a : α) (s : VSl) (w : W) : noXV (.ok a s w) = .ok a s w := rfl
@[simp] theorem noXV_stk {α : Type} : noXV (.stk : VR α) = .stk := rfl
/-! what follows, named -/
@[simp] def varX (i : Nat) (o : Option (Option PV)) (s : VSl) (w : W) : VR RL := match o with
  | some (some v) => .ok (mkR (.sl i) 0 v) s w
  | _ => .stk
@[simp] def ld2 {β : Type} (K : PV → PV → VSl → W → VR β) (ra rb : RL) (s : VSl) (w : W) : VR β := match ldB ra s w, ldB rb s w with
  | some x, some y => K x y s w
  | _, _ => .stk
@[simp] def b2 {β : Type} (R : VSl → W → VR RL) (K : PV → PV → VSl → W → VR β) (ra : RL) (s : VSl) (w : W) : VR β := (R s w).bind (ld2 K ra)
@[simp] def opK (f : PV → PV → Option PV) (x y : PV) (s : VSl) (w : W) : VR RL := ofR (f x y) s w
@[simp] def cmK (op : CmpOp) (x y : PV) (s : VSl) (w : W) : VR RL := ofR (cmpV op x y w.H) s w
@[simp] def negX (x : PV) (s : VSl) (w : W) : VR RL := match x with
  | .int i => .ok (.v (.int (-i))) s w
  | _ => .stk
@[simp] def notX (x : PV) (s : VSl) (w : W) : VR RL := ofR ((truV w.H x).map fun b => .bl (!b)) s w
@[simp] def chX2 (op2 : CmpOp) (y : PV) (rc : RL) (s : VSl) (w : W) : VR RL := lB (fun z s w => cmK op2 y z s w) rc s w
@[simp] def chX1 (op op2 : CmpOp) (fc : VSl → W → VR RL) (x y : PV) (s : VSl) (w : W) : VR RL := match cmpV op x y w.H with
  | some (.bl true) => if isOw y = true then .stk else (fc s w).bind (chX2 op2 y)
  | some (.bl false) => .ok (.v (.bl false)) s w
  | _ => .stk
@[simp] def chX3 (op2 op3 : CmpOp) (fd : VSl → W → VR RL) (y : PV) (rc : RL) (s : VSl) (w : W) : VR RL := lB (fun z s w => chX1 op2 op3 fd y z s w) rc s w
@[simp] def ch3X1 (op op2 op3 : CmpOp) (fc fd : VSl → W → VR RL) (x y : PV) (s : VSl) (w : W) : VR RL := match cmpV op x y w.H with
  | some (.bl true) => if isOw y = true then .stk else (fc s w).bind (chX3 op2 op3 fd y)
  | some (.bl false) => .ok (.v (.bl false)) s w
  | _ => .stk
@[simp] def truX (r : RL) (s : VSl) (w : W) : Option Bool := match ldB r s w with
  | some x => truV w.H x
  | none => none
@[simp] def andX (R : VSl → W → VR RL) (ra : RL) (s : VSl) (w : W) : VR RL := match truX ra s w with
  | some true => R s w
  | some false => .ok ra s w
  | none => .stk
@[simp] def orX (R : VSl → W → VR RL) (ra : RL) (s : VSl) (w : W) : VR RL := match truX ra s w with
  | some true => .ok ra s w
  | some false => R s w
  | none => .stk
@[simp] def ifX {α : Type} (Ra Rb : VSl → W → VR α) (rc : RL) (s : VSl) (w : W) : VR α := match truX rc s w with
  | some true => Ra s w
  | some false => Rb s w
  | none => .stk
@[simp] def tupX (vs : List PV) (s : VSl) (w : W) : VR RL := ofR (limO vs.length (.tup (vs.map PV.shr))) s w
@[simp] def lstX (vs : List PV) (s : VSl) (w : W) : VR RL := ofR (limO vs.length (.lst .ow (vs.map PV.shr))) s w
def pairsV : List PV → Option (List (Ky × PV))
  | [] => some []
  | k :: v :: r => match toKyV k, pairsV r with
    | some k, some ps => some ((k, v) :: ps)
    | _, _ => none
  | [_] => none
@[simp] def dicX (vs : List PV) (s : VSl) (w : W) : VR RL := match pairsV vs with
  | some kvs => if kvs.length ≤ 15 then .ok (.v (.ref w.H.ob.length)) s ⟨w.d, w.H.add (.dct (vmerge kvs))⟩ else .stk
  | none => .stk
@[simp] def ofC (r : VC) (s : VSl) : VR RL := match r with
  | .ok v w => .ok (.v v) s w
  | .exc c vs w => .exc c vs s w
  | .stk => .stk
@[simp] def drawX (vs : List PV) (s : VSl) (w : W) : VR RL := match vs with
  | [.drw, .int many] => if 0 < many ∧ many ≤ 10000000000000000 then .ok (.v (.int (takeO w.d many).1)) s ⟨(takeO w.d many).2, w.H⟩ else .stk
  | _ => .stk
@[simp] def callX (C : VCl) (f : Nat) (vs : List PV) (s : VSl) (w : W) : VR RL := if C.tk = some f then drawX vs s w else ofC (C.f f (vs.map PV.shr) w) s
@[simp] def newC (k : Nat) (r : VC) (s : VSl) : VR RL := match r with
  | .ok .non w => .ok (.v (.ref k)) s w
  | .exc c vs w => .exc c vs s w
  | _ => .stk
@[simp] def newX (C : VCl) (c : Nat) (vs : List PV) (s : VSl) (w : W) : VR RL := match C.init c with
  | some i => newC w.H.ob.length (C.i i (.ref w.H.ob.length :: vs.map PV.shr) ⟨w.d, w.H.add (.ins c [])⟩) s
  | none => .stk
@[simp] def methX2 (C : VCl) (i k : Nat) (vs : List PV) (s : VSl) (w : W) : VR RL := if C.tk = some i then .stk else ofC (C.f i (.ref k :: vs.map PV.shr) w) s
@[simp] def methX1 (C : VCl) (m : Nat) (fes : VSl → W → VR (List PV)) (k : Nat) (o : Option VOb) (s : VSl) (w : W) : VR RL := match o with
  | some (.ins c fs) => (match C.meth c m with
    | some i => if (fs.lookup m).isNone then (fes s w).bind (methX2 C i k) else .stk
    | none => .stk)
  | _ => .stk
@[simp] def methX (C : VCl) (m : Nat) (fes : VSl → W → VR (List PV)) (x : PV) (s : VSl) (w : W) : VR RL := match x with
  | .ref k => methX1 C m fes k w.H.ob[k]? s w
  | _ => .stk
@[simp] def ldAll : List RL → VSl → W → Option (List PV)
  | [], _, _ => some []
  | r :: rs, s, w => match ldB r s w, ldAll rs s w with
    | some x, some xs => some (x :: xs)
    | _, _ => none
@[simp] def primX (p : Prim) (rs : List RL) (s : VSl) (w : W) : VR RL := match ldAll rs s w with
  | some vs => ofR (primP p vs w.H) s w
  | none => .stk
/-- is it a list with an owner, to be changed -/
@[simp] def appV (p : PM) (xs : List PV) (vs : List PV) : Option (PV × List PV) := match p, vs with
  | .append, [v] => if xs.length < lim then some (.non, xs ++ [v.shr]) else none
  | .extend, [.lst _ ys] => if xs.length + ys.length ≤ lim then some (.non, xs ++ ys) else none
  | .extend, [.tup ys] => if xs.length + ys.length ≤ lim then some (.non, xs ++ ys) else none
  | .pop, [] => (match xs.getLast? with
    | some v => some (v, xs.dropLast)
    | none => none)
  | _, _ => none
@[simp] def setR (q : Pl) (o : Option (PV × List PV)) (s : VSl) (w : W) : VR RL := match o with
  | some (v, xs) => (match setP q (.lst .ow xs) 1 s w with
    | some (s, w) => .ok (.v v) s w
    | none => .stk)
  | none => .stk
@[simp] def mutX2 (p : PM) (q : Pl) (vs : List PV) (o : Option PV) (s : VSl) (w : W) : VR RL := match o with
  | some (.lst .ow xs) => setR q (appV p xs vs) s w
  | _ => .stk
@[simp] def mutX (p : PM) (q : Pl) (t : Nat) (vs : List PV) (s : VSl) (w : W) : VR RL := if okT q t w = true then mutX2 p q vs (getP q s w) s w else .stk
@[simp] def extX (q : Pl) (t : Nat) (rs : List RL) (s : VSl) (w : W) : VR RL := match ldAll rs s w with
  | some vs => mutX .extend q t vs s w
  | none => .stk
@[simp] def dpopK (k : Nat) (kvs : List (Ky × PV)) (key : Ky) (s : VSl) (w : W) : VR RL := match vget kvs key with
  | some v => if v = v.shr then .ok (.v v) s ⟨w.d, w.H.upd k (.dct (vdel kvs key))⟩ else .stk
  | none => .stk
@[simp] def dpopX (k : Nat) (vs : List PV) (s : VSl) (w : W) : VR RL := match vs with
  | [x] => (match w.H.ob[k]?, toKyV x with
    | some (.dct kvs), some key => dpopK k kvs key s w
    | _, _ => .stk)
  | _ => .stk
@[simp] def pmK (p : PM) (ro : RL) (rs : List RL) (s : VSl) (w : W) : VR RL := match ldB ro s w, ldAll rs s w with
  | some x, some vs => ofR (pmV p x vs w.H) s w
  | _, _ => .stk
@[simp] def pmOf (p : PM) (ro : RL) (s : VSl) (w : W) : Bool := match ldB ro s w with
  | some x => pmT' p x w.H
  | none => false
@[simp] def pmOw (ro : RL) (s : VSl) (w : W) : Bool := match ldB ro s w with
  | some (.lst .ow _) => true
  | _ => false
/-- rb: the arguments looked at, re: the arguments taken along -/
@[simp] def pmX (p : PM) (rb : VSl → W → VR (List RL)) (re : VSl → W → VR (List PV)) (ro : RL) (s : VSl) (w : W) : VR RL := match ro with
  | .p q t => (match p with
    | .append => if pmOw (.p q t) s w = true then (re s w).bind (mutX .append q t) else .stk
    | .pop => if pmOw (.p q t) s w = true then (re s w).bind (mutX .pop q t) else .stk
    | .extend => if pmOw (.p q t) s w = true then (rb s w).bind (extX q t) else .stk
    | _ => if pmOf p ro s w = true then (rb s w).bind (pmK p ro) else .stk)
  | .v x => (match p, x with
    | .dpop, .ref k => if pmT' .dpop x w.H = true then (re s w).bind (dpopX k) else .stk
    | _, _ => if pmOf p ro s w = true then (rb s w).bind (pmK p ro) else .stk)
@[simp] def mkO (q : Pl) (t : Nat) (o : Option PV) (s : VSl) (w : W) : VR RL := match o with
  | some v => .ok (mkR q t v) s w
  | none => .stk
@[simp] def fldX (f : Nat) (x : PV) (s : VSl) (w : W) : VR RL := match x with
  | .ref k => mkO (.fl k f) w.H.t (obF f w.H.ob[k]?) s w
  | _ => .stk
@[simp] def ixK2 (k : Nat) (key : Option Ky) (s : VSl) (w : W) : VR RL := match key with
  | some key => mkO (.en k key) w.H.t (obE key w.H.ob[k]?) s w
  | none => .stk
@[simp] def ixX (x y : PV) (s : VSl) (w : W) : VR RL := match x, y with
  | .str u, .int i => ofR ((limO u.length u).bind fun u => chr1 (atI u i)) s w
  | .tup vs, .int i => ofR (atI vs i) s w
  | .lst _ vs, .int i => ofR (atI vs i) s w
  | .ref k, y => ixK2 k (toKyV y) s w
  | _, _ => .stk
@[simp] def partX (x : PV) (s : VSl) (w : W) : VR (Option Int) := match x with
  | .int i => .ok (some i) s w
  | _ => .stk
@[simp] def slX3 (ra : RL) (lo hi : Option Int) (s : VSl) (w : W) : VR RL := match ldB ra s w with
  | some x => ofR (slV x lo hi) s w
  | none => .stk
@[simp] def slX2 (ra : RL) (fh : VSl → W → VR (Option Int)) (lo : Option Int) (s : VSl) (w : W) : VR RL := (fh s w).bind (slX3 ra lo)
@[simp] def slX (fl fh : VSl → W → VR (Option Int)) (ra : RL) (s : VSl) (w : W) : VR RL := (fl s w).bind (slX2 ra fh)
@[simp] def gixX (o : Option Val) (x : PV) (s : VSl) (w : W) : VR RL := match o with
  | some g => ofR (gixV g x) s w
  | none => .stk
@[simp] def isiX (t : Ty) (x : PV) (s : VSl) (w : W) : VR RL := ofR ((isiV w.H t x).map .bl) s w
@[simp] def ggX (kvs : List (List Nat × Int)) (d : Option Int) (x : PV) (s : VSl) (w : W) : VR RL := ofR (ggV kvs d x) s w
@[simp] def fmtX (k : Nat) (x : PV) (s : VSl) (w : W) : VR RL := ofR (fmtV k x) s w
@[simp] def jsX (vs : List PV) (s : VSl) (w : W) : VR RL := ofR (jsV vs) s w
@[simp] def consR (r : RL) (rs : List RL) (s : VSl) (w : W) : VR (List RL) := .ok (r :: rs) s w
@[simp] def consRX (f : VSl → W → VR (List RL)) (r : RL) (s : VSl) (w : W) : VR (List RL) := (f s w).bind (consR r)
@[simp] def consV (x : PV) (xs : List PV) (s : VSl) (w : W) : VR (List PV) := .ok (x :: xs) s w
@[simp] def consVX (f : VSl → W → VR (List PV)) (x : PV) (s : VSl) (w : W) : VR (List PV) := (f s w).bind (consV x)
@[simp] def lEK {β : Type} (K : PV → VSl → W → VR β) (r : RL) (s : VSl) (w : W) : VR β := (lE r s w).bind K
/-! sources -/
@[simp] def srcO (q : Pl) (f : List PV → List PV) (o : Option PV) (s : VSl) (w : W) : VR VSrc := match o with
  | some (.lst .ow vs) => .ok ⟨f vs, some w.H.u⟩ s w
  | some (.lst .sh vs) => .ok ⟨f vs, none⟩ s w
  | _ => .stk
@[simp] def srcL (f : List PV → List PV) (v : PV) (s : VSl) (w : W) : VR VSrc := match v with
  | .lst _ vs => .ok ⟨f vs, none⟩ s w
  | _ => .stk
@[simp] def srcP (f : List PV → List PV) (q : Pl) (t : Nat) (s : VSl) (w : W) : VR VSrc := match q with
  | .sl i => (lE (.p (.sl i) t) s w).bind (srcL f)
  | q => if okT q t w = true then srcO q f (getP q s w) s w else .stk
@[simp] def srcX (r : RL) (s : VSl) (w : W) : VR VSrc := match r with
  | .v (.tup vs) => .ok ⟨vs, none⟩ s w
  | .v (.lst _ vs) => .ok ⟨vs, none⟩ s w
  | .v (.str u) => .ok ⟨u.map fun c => .str [c], none⟩ s w
  | .p q t => srcP (fun vs => vs) q t s w
  | _ => .stk
def rngV (lo : Int) (c : Int) : Nat → List PV
  | 0 => []
  | n + 1 => .int lo :: rngV (lo + c) c n
def enuV : Nat → List PV → List PV
  | _, [] => []
  | i, v :: vs => .tup [.int i, v] :: enuV (i + 1) vs
/-- a bound that range takes -/
def inH (i : Int) : Bool := decide (-hlim ≤ i ∧ i < hlim)
@[simp] def rng1X (x : PV) (s : VSl) (w : W) : VR VSrc := match x with
  | .int i => if inH i = true then .ok ⟨rngV 0 1 i.toNat, none⟩ s w else .stk
  | _ => .stk
@[simp] def rng2X (x y : PV) (s : VSl) (w : W) : VR VSrc := match x, y with
  | .int i, .int j => if inH i = true ∧ inH j = true then .ok ⟨rngV i 1 (j - i).toNat, none⟩ s w else .stk
  | _, _ => .stk
@[simp] def rng3X (x y z : PV) (s : VSl) (w : W) : VR VSrc := match x, y, z with
  | .int i, .int j, .int (-1) => if inH i = true ∧ inH j = true then .ok ⟨rngV i (-1) (i - j).toNat, none⟩ s w else .stk
  | _, _, _ => .stk
@[simp] def r3K (rc : VSl → W → VR RL) (x y : PV) (s : VSl) (w : W) : VR VSrc := if isOw x = true ∨ isOw y = true then .stk else (rc s w).bind (lB (rng3X x y))
@[simp] def enuX (r : RL) (s : VSl) (w : W) : VR VSrc := match r with
  | .v (.tup vs) => .ok ⟨enuV 0 vs, none⟩ s w
  | .v (.lst _ vs) => .ok ⟨enuV 0 vs, none⟩ s w
  | .p q t => srcP (enuV 0) q t s w
  | _ => .stk
def rlV (x y : PV) : Option PV := match x, y with
  | .int i, .int j => if inH i = true ∧ inH j = true ∧ (j - i).toNat ≤ lim then some (.lst .ow (rngV i 1 (j - i).toNat)) else none
  | _, _ => none
/-! comprehensions -/
@[simp] def someV (y : PV) (s : VSl) (w : W) : VR (Option PV) := .ok (some y.shr) s w
@[simp] def stepX1 (fe : VSl → W → VR RL) (rc : RL) (s : VSl) (w : W) : VR (Option PV) := match truX rc s w with
  | some true => (fe s w).bind (lEK someV)
  | some false => .ok none s w
  | none => .stk
@[simp] def stepX (js : List Nat) (tg : Tg) (fc : VSl → W → VR RL) (fe : VSl → W → VR RL) (v : PV) (s : VSl) (w : W) : VR (Option PV) := match setTV tg v (wipeV s js) with
  | some s => (fc s w).bind (stepX1 fe)
  | none => .stk
def compX (step : PV → VSl → W → VR (Option PV)) (g : Option Nat) : List PV → List PV → VSl → W → VR (List PV)
  | [], acc, s, w => if grd g w = true then .ok acc s w else .stk
  | v :: vs, acc, s, w => if grd g w = true then (noXV (step v s w)).bind fun o s w => match o with
    | none => compX step g vs acc s w
    | some y => if acc.length < lim then compX step g vs (acc ++ [y]) s w else .stk
    else .stk
@[simp] def lcEnd (s0 : VSl) (js : List Nat) (vs : List PV) (s : VSl) (w : W) : VR RL := .ok (.v (.lst .ow vs)) (backV s0 s js) w
@[simp] def lcX (step : PV → VSl → W → VR (Option PV)) (js : List Nat) (src : VSrc) (s : VSl) (w : W) : VR RL := (compX step src.g src.vs [] s w).bind (lcEnd s js)
mutual
def vx (C : VCl) : E → VSl → W → VR RL
  | .var i, s, w => varX i s[i]? s w
  | .non, s, w => .ok (.v .non) s w
  | .tt b, s, w => .ok (.v (.bl b)) s w
  | .int i, s, w => .ok (.v (.int i)) s w
  | .str z, s, w => .ok (.v (.str z)) s w
  | .glob k, s, w => ofR ((C.glob k).bind pvOf) s w
  | .bin op a b, s, w => (vx C a s w).bind (b2 (vx C b) (opK (binV op)))
  | .neg a, s, w => (vx C a s w).bind (lB negX)
  | .not a, s, w => (vx C a s w).bind (lB notX)
  | .cmp op a b, s, w => (vx C a s w).bind (b2 (vx C b) (cmK op))
  | .chain op op2 a b c, s, w => (vx C a s w).bind (b2 (vx C b) (chX1 op op2 (vx C c)))
  | .chain3 op op2 op3 a b c d, s, w => (vx C a s w).bind (b2 (vx C b) (ch3X1 op op2 op3 (vx C c) (vx C d)))
  | .and a b, s, w => (vx C a s w).bind (andX (vx C b))
  | .or a b, s, w => (vx C a s w).bind (orX (vx C b))
  | .ife c a b, s, w => (vx C c s w).bind (ifX (vx C a) (vx C b))
  | .tup es, s, w => (vxs C es s w).bind tupX
  | .lst es, s, w => (vxs C es s w).bind lstX
  | .dic es, s, w => (vxs C es s w).bind dicX
  | .call f es, s, w => (vxs C es s w).bind (callX C f)
  | .new c es, s, w => (vxs C es s w).bind (newX C c)
  | .meth o m es, s, w => (vx C o s w).bind (lB (methX C m (vxs C es)))
  | .prim p es, s, w => (vxr C es s w).bind (primX p)
  | .pm p o es, s, w => (vx C o s w).bind (pmX p (vxr C es) (vxs C es))
  | .fld o f, s, w => (vx C o s w).bind (lB (fldX f))
  | .ix a b, s, w => (vx C a s w).bind (b2 (vx C b) ixX)
  | .sl a lo hi, s, w => (vx C a s w).bind (slX (vxo C lo) (vxo C hi))
  | .lc elt tg it cond own, s, w => (vxi C it s w).bind (lcX (stepX (own.map (·.2) ++ tgI tg) tg (vxc C cond) (vx C elt)) (own.map (·.2) ++ tgI tg))
  | .gix k e, s, w => (vx C e s w).bind (lB (gixX (C.glob k)))
  | .isi e t, s, w => (vx C e s w).bind (lB (isiX t))
  | .catR a o yz, s, w => (vx C a s w).bind (b2 (vx C o) (opK (catRV yz)))
  | .fmt e k, s, w => (vx C e s w).bind (lB (fmtX k))
  | .js es, s, w => (noXV (vxs C es s w)).bind jsX
  | .maxD a d, s, w => (vx C a s w).bind (b2 (vx C d) (opK maxDV))
  | .rlst a b, s, w => (vx C a s w).bind (b2 (vx C b) (opK rlV))
  | .gdct _ kvs d e, s, w => (vx C e s w).bind (lB (ggX kvs d))
/-- arguments looked at -/
def vxr (C : VCl) : Es → VSl → W → VR (List RL)
  | .nil, s, w => .ok [] s w
  | .cons e es, s, w => (vx C e s w).bind (consRX (vxr C es))
/-- arguments taken along -/
def vxs (C : VCl) : Es → VSl → W → VR (List PV)
  | .nil, s, w => .ok [] s w
  | .cons e es, s, w => (vx C e s w).bind (lEK (consVX (vxs C es)))
def vxo (C : VCl) : Eo → VSl → W → VR (Option Int)
  | .none, s, w => .ok none s w
  | .some e, s, w => (vx C e s w).bind (lB partX)
def vxc (C : VCl) : Eo → VSl → W → VR RL
  | .none, s, w => .ok (.v (.bl true)) s w
  | .some e, s, w => vx C e s w
def vxi (C : VCl) : I → VSl → W → VR VSrc
  | .val e, s, w => (vx C e s w).bind srcX
  | .rng1 a, s, w => (vx C a s w).bind (lB rng1X)
  | .rng2 a b, s, w => (vx C a s w).bind (b2 (vx C b) rng2X)
  | .rng3 a b c, s, w => (vx C a s w).bind (b2 (vx C b) (r3K (vx C c)))
  | .enu e, s, w => (vx C e s w).bind enuX
end
/-! ### statements -/
inductive VO where
  | nx (s : VSl) (w : W)
  | rt (v : PV) (w : W)
  | bk (s : VSl) (w : W)
  | ct (s : VSl) (w : W)
  | exc (c : Nat) (vs : List PV) (s : VSl) (w : W)
  | stk
def VR.st {α : Type} (r : VR α) (f : α → VSl → W → VO) : VO := match r with
  | .ok a s w => f a s w
  | .exc c vs s w => .exc c vs s w
  | .stk => .stk
@[simp] theorem VR.st_ok {α : Type} (a : α) (s : VSl) (w : W) (f : α → VSl → W → VO) : (VR.ok a s w).st f = f a s w := rfl
@[simp] theorem VR.st_exc {α : Type} (c : Nat) (vs : List PV) (s : VSl) (w : W) (f : α → VSl → W → VO) : (VR.exc c vs s w : VR α).st f = .exc c vs s w := rfl
@[simp] theorem VR.st_stk {α : Type} (f : α → VSl → W → VO) : (VR.stk : VR α).st f = .stk := rfl
def VO.then (o : VO) (f : VSl → W → VO) : VO := match o with
  | .nx s w => f s w
  | o => o
@[simp] theorem VO.then_nx (s : VSl) (w : W) (f : VSl → W → VO) : (VO.nx s w).then f = f s w := rfl
@[simp] theorem VO.then_rt (v : PV) (w : W) (f : VSl → W → VO) : (VO.rt v w).then f = .rt v w := rfl
@[simp] theorem VO.then_bk (s : VSl) (w : W) (f : VSl → W → VO) : (VO.bk s w).then f = .bk s w := rfl
@[simp] theorem VO.then_ct (s : VSl) (w : W) (f : VSl → W → VO) : (VO.ct s w).then f = .ct s w := rfl
@[simp] theorem VO.then_exc (c : Nat) (vs : List PV) (s : VSl) (w : W) (f : VSl → W → VO) : (VO.exc c vs s w).then f = .exc c vs s w := rfl
@[simp] theorem VO.then_stk (f : VSl → W → VO) : VO.stk.then f = .stk := rfl
def vforV (step : PV → VSl → W → VO) (g : Option Nat) : List PV → VSl → W → VO
  | [], s, w => if grd g w = true then .nx s w else .stk
  | v :: vs, s, w => if grd g w = true then (match step v s w with
    | .nx s w => vforV step g vs s w
    | .ct s w => vforV step g vs s w
    | .bk s w => .nx s w
    | o => o) else .stk
def vwhV (test : VSl → W → VR RL) (body : VSl → W → VO) : Nat → VSl → W → VO
  | 0, _, _ => .stk
  | n + 1, s, w => (test s w).st fun r s w => match truX r s w with
    | some true => (match body s w with
      | .nx s w => vwhV test body n s w
      | .ct s w => vwhV test body n s w
      | .bk s w => .nx s w
      | o => o)
    | some false => .nx s w
    | none => .stk
@[simp] def exprV (_ : RL) (s : VSl) (w : W) : VO := .nx s w
@[simp] def asgV2 (t : Tg) (v : PV) (s : VSl) (w : W) : VO := match setTV t v s with
  | some s => .nx s w
  | none => .stk
@[simp] def asgV (t : Tg) (r : RL) (s : VSl) (w : W) : VO := (lE r s w).st (asgV2 t)
@[simp] def setFV (ok : Nat → Nat → Bool) (k f : Nat) (v : PV) (w : W) (o : Option VOb) : Option W := match o with
  | some (.ins c fs) => if fs.length < 1000 ∧ ok c f = true then some ⟨w.d, w.H.upd k (.ins c (vfput f v fs))⟩ else none
  | _ => none
@[simp] def nxV (o : Option W) (s : VSl) : VO := match o with
  | some w => .nx s w
  | none => .stk
@[simp] def nxV2 (o : Option (VSl × W)) : VO := match o with
  | some (s, w) => .nx s w
  | none => .stk
@[simp] def fldV3 (C : VCl) (f : Nat) (v x : PV) (s : VSl) (w : W) : VO := match x with
  | .ref k => nxV (setFV C.fldok k f v w w.H.ob[k]?) s
  | _ => .stk
@[simp] def fldV2 (C : VCl) (f : Nat) (v : PV) (r : RL) (s : VSl) (w : W) : VO := match ldB r s w with
  | some x => fldV3 C f v x s w
  | none => .stk
@[simp] def fldV (C : VCl) (f : Nat) (fo : VSl → W → VR RL) (r : RL) (s : VSl) (w : W) : VO := (lE r s w).st fun v s w => (fo s w).st (fldV2 C f v)
/-- a list's item stored -/
@[simp] def stoL (xs : List PV) (y v : PV) : Option (List PV) := match y with
  | .int i => (match ixN xs.length i with
    | some j => some (xs.set j v.shr)
    | none => none)
  | _ => none
@[simp] def stoP (q : Pl) (o : Option (List PV)) (s : VSl) (w : W) : Option (VSl × W) := match o with
  | some xs => setP q (.lst .ow xs) 1 s w
  | none => none
@[simp] def stoD (k : Nat) (kvs : List (Ky × PV)) (key : Option Ky) (v : PV) (w : W) : Option W := match key with
  | some key => if kvs.length < lim then some ⟨w.d, w.H.upd k (.dct (vput kvs key v))⟩ else none
  | none => none
@[simp] def stoR (k : Nat) (o : Option VOb) (y v : PV) (s : VSl) (w : W) : Option (VSl × W) := match o with
  | some (.dct kvs) => (stoD k kvs (toKyV y) v w).map fun w => (s, w)
  | _ => none
@[simp] def stoQ (q : Pl) (o : Option PV) (y v : PV) (s : VSl) (w : W) : Option (VSl × W) := match o with
  | some (.lst .ow xs) => stoP q (stoL xs y v) s w
  | _ => none
@[simp] def stoV (ro : RL) (y v : PV) (s : VSl) (w : W) : Option (VSl × W) := match ro with
  | .v (.ref k) => stoR k w.H.ob[k]? y v s w
  | .p q t => if okT q t w = true then stoQ q (getP q s w) y v s w else none
  | _ => none
@[simp] def subV3 (v : PV) (ro ri : RL) (s : VSl) (w : W) : VO := match ldB ri s w with
  | some y => nxV2 (stoV ro y v s w)
  | none => .stk
@[simp] def subV2 (v : PV) (fi : VSl → W → VR RL) (ro : RL) (s : VSl) (w : W) : VO := (fi s w).st (subV3 v ro)
@[simp] def subV1 (fo fi : VSl → W → VR RL) (v : PV) (s : VSl) (w : W) : VO := (fo s w).st (subV2 v fi)
@[simp] def subV (fo fi : VSl → W → VR RL) (r : RL) (s : VSl) (w : W) : VO := (lE r s w).st (subV1 fo fi)
@[simp] def augV3 (i : Nat) (op : Operator) (x y : PV) (s : VSl) (w : W) : VO := match x with
  | .lst .ow xs => (match op, y with
    | .Add, .lst _ ys => if xs.length + ys.length ≤ lim then .nx (s.set i (some (.lst .ow (xs ++ ys)))) w else .stk
    | _, _ => .stk)
  | x => (match ipV op x y with
    | some z => .nx (s.set i (some z)) w
    | none => .stk)
@[simp] def augV2 (i : Nat) (op : Operator) (r : RL) (s : VSl) (w : W) : VO := match ldB r s w, slG' s[i]? with
  | some y, some x => augV3 i op x y s w
  | _, _ => .stk
@[simp] def augV (i : Nat) (op : Operator) (fe : VSl → W → VR RL) (o : Option PV) (s : VSl) (w : W) : VO := match o with
  | some _ => (fe s w).st (augV2 i op)
  | none => .stk
/-- o.f op= e; the field's value is read first -/
@[simp] def afV4 (C : VCl) (k f : Nat) (op : Operator) (a y : PV) (s : VSl) (w : W) : VO := match ipV op a y with
  | some z => nxV (setFV C.fldok k f z w w.H.ob[k]?) s
  | none => .stk
@[simp] def afV3 (C : VCl) (k f : Nat) (op : Operator) (a : PV) (t : Nat) (re : RL) (s : VSl) (w : W) : VO := match ldB re s w with
  | some y => if w.H.t = t then afV4 C k f op a y s w else .stk
  | none => .stk
@[simp] def afV2 (C : VCl) (f : Nat) (op : Operator) (fe : VSl → W → VR RL) (k : Nat) (a : PV) (s : VSl) (w : W) : VO := if isOw a = true then .stk else (fe s w).st (afV3 C k f op a w.H.t)
@[simp] def afV1 (C : VCl) (f : Nat) (op : Operator) (fe : VSl → W → VR RL) (x : PV) (s : VSl) (w : W) : VO := match x with
  | .ref k => (match obF f w.H.ob[k]? with
    | some v => afV2 C f op fe k v s w
    | none => .stk)
  | _ => .stk
@[simp] def afV (C : VCl) (f : Nat) (op : Operator) (fe : VSl → W → VR RL) (ro : RL) (s : VSl) (w : W) : VO := match ldB ro s w with
  | some x => afV1 C f op fe x s w
  | none => .stk
/-- o[i] op= e -/
@[simp] def itV (x y : PV) (H : VH) : Option PV := match x, y with
  | .lst _ vs, .int i => atI vs i
  | .ref k, y => (match toKyV y with
    | some key => plainO (obE key H.ob[k]?)
    | none => none)
  | _, _ => none
@[simp] def asV4 (op : Operator) (ro : RL) (y a z : PV) (s : VSl) (w : W) : VO := match ipV op a z with
  | some u => nxV2 (stoV ro y u s w)
  | none => .stk
@[simp] def asV3 (op : Operator) (ro : RL) (y a : PV) (re : RL) (s : VSl) (w : W) : VO := match ldB re s w with
  | some z => asV4 op ro y a z s w
  | none => .stk
@[simp] def asV2b (op : Operator) (fe : VSl → W → VR RL) (ro : RL) (y : PV) (o : Option PV) (s : VSl) (w : W) : VO := match o with
  | some a => if isOw y = true then .stk else (fe s w).st (asV3 op ro y a)
  | none => .stk
@[simp] def asV2 (op : Operator) (fe : VSl → W → VR RL) (ro ri : RL) (s : VSl) (w : W) : VO := match ldB ro s w, ldB ri s w with
  | some x, some y => asV2b op fe ro y (itV x y w.H) s w
  | _, _ => .stk
@[simp] def asV1 (op : Operator) (fi fe : VSl → W → VR RL) (ro : RL) (s : VSl) (w : W) : VO := (fi s w).st (asV2 op fe ro)
/-- del d[k] -/
@[simp] def delV3 (k : Nat) (o : Option VOb) (y : PV) (s : VSl) (w : W) : VO := match o, toKyV y with
  | some (.dct kvs), some key => if (vget kvs key).isSome then .nx s ⟨w.d, w.H.upd k (.dct (vdel kvs key))⟩ else .stk
  | _, _ => .stk
@[simp] def delV2 (ro ri : RL) (s : VSl) (w : W) : VO := match ldB ro s w, ldB ri s w with
  | some (.ref k), some y => delV3 k w.H.ob[k]? y s w
  | _, _ => .stk
@[simp] def delV1 (fi : VSl → W → VR RL) (ro : RL) (s : VSl) (w : W) : VO := (fi s w).st (delV2 ro)
@[simp] def ifV (fa fb : VSl → W → VO) (rc : RL) (s : VSl) (w : W) : VO := match truX rc s w with
  | some true => fa s w
  | some false => fb s w
  | none => .stk
def forKV (t : Tg) (fb : VSl → W → VO) (v : PV) (s : VSl) (w : W) : VO := match setTV t v s with
  | some s => fb s w
  | none => .stk
@[simp] def forX (t : Tg) (fb : VSl → W → VO) (src : VSrc) (s : VSl) (w : W) : VO := vforV (forKV t fb) src.g src.vs s w
@[simp] def retV2 (v : PV) (_ : VSl) (w : W) : VO := .rt v w
@[simp] def retS (o : Option PV) (w : W) : VO := match o with
  | some (.lst .ow xs) => .rt (.lst .ow xs) w
  | _ => .stk
@[simp] def retV (r : RL) (s : VSl) (w : W) : VO := match r with
  | .v x => .rt x w
  | .p (.sl i) _ => retS (slG' s[i]?) w
  | r => (lE r s w).st retV2
@[simp] def raiV (c : Nat) (vs : List PV) (s : VSl) (w : W) : VO := if c < 2 ∧ vs.length = (xFlds c).length then .exc c (vs.map PV.shr) s w else .stk
@[simp] def try2V (o : VO) : VO := match o with
  | .exc c vs _ w => (match c, vs with
    | 0, [a, b] => .rt (.tup [a, b]) w
    | _, _ => .stk)
  | o => o
mutual
def vex (C : VCl) : S → VSl → W → VO
  | .expr e, s, w => (vx C e s w).st exprV
  | .asg t e, s, w => (vx C e s w).st (asgV t)
  | .fld o f e, s, w => (vx C e s w).st (fldV C f (vx C o))
  | .sub o i e, s, w => (vx C e s w).st (subV (vx C o) (vx C i))
  | .aug i op e, s, w => augV i op (vx C e) (slG' s[i]?) s w
  | .augF o f op e, s, w => (vx C o s w).st (afV C f op (vx C e))
  | .augS o i op e, s, w => (vx C o s w).st (asV1 op (vx C i) (vx C e))
  | .del o i, s, w => (vx C o s w).st (delV1 (vx C i))
  | .ifs c a b, s, w => (vx C c s w).st (ifV (vexs C a) (vexs C b))
  | .fors t it body, s, w => (vxi C it s w).st (forX t (vexs C body))
  | .whil c body, s, w => vwhV (vx C c) (vexs C body) fuel s w
  | .ret e, s, w => (vx C e s w).st retV
  | .retN, _, w => .rt .non w
  | .brk, s, w => .bk s w
  | .cont, s, w => .ct s w
  | .pass, s, w => .nx s w
  | .nev, _, _ => .stk
  | .rais c es, s, w => (vxs C es s w).st (raiV c)
  | .try2 body _, s, w => try2V (vexs C body s w)
def vexs (C : VCl) : Ss → VSl → W → VO
  | .nil, s, w => .nx s w
  | .cons x ss, s, w => (vex C x s w).then (vexs C ss)
end
/-! ### functions -/
def endV (o : VO) : VC := match o with
  | .rt v w => .ok v w
  | .nx _ w => .ok .non w
  | .exc c vs _ w => .exc c vs w
  | _ => .stk
@[simp] theorem endV_rt (v : PV) (w : W) : endV (.rt v w) = .ok v w := rfl
@[simp] theorem endV_nx (s : VSl) (w : W) : endV (.nx s w) = .ok .non w := rfl
@[simp] theorem endV_exc (c : Nat) (vs : List PV) (s : VSl) (w : W) : endV (.exc c vs s w) = .exc c vs w := rfl
@[simp] def startV (k : Nat) (vs : List PV) : VSl := vs.map some ++ List.replicate (k - vs.length) none
@[simp] def runV (C : VCl) (d : Fn) (vs : List PV) (w : W) : VC := if vs.length = d.ps.length then endV (vexs C d.body (startV d.nms.length vs) w) else .stk
def vcallP (G : Tab) (tk : Nat) : Nat → (Nat → List PV → W → VC) × (Nat → List PV → W → VC)
  | 0 => (fun _ _ _ => .stk, fun _ _ _ => .stk)
  | n + 1 => (fun f vs w => match G.fns[f]? with
    | some d => runV ⟨(vcallP G tk n).1, (vcallP G tk n).2, fun c m => (G.cls[c]?).bind fun k => k.meths.lookup m, fun c => (G.cls[c]?).bind (·.init), fun k => (G.globs[k]?).map (·.2), fun c f => (match G.cls[c]? with | some k => k.flds.contains f | none => false), tkL tk n⟩ d vs w
    | none => .stk, (vcallP G tk n).1)
def vcallN (G : Tab) (tk n : Nat) : Nat → List PV → W → VC := (vcallP G tk n).1
def vcallsN (G : Tab) (tk n : Nat) : VCl := ⟨(vcallP G tk n).1, (vcallP G tk n).2, fun c m => (G.cls[c]?).bind fun k => k.meths.lookup m, fun c => (G.cls[c]?).bind (·.init), fun k => (G.globs[k]?).map (·.2), fun c f => (match G.cls[c]? with | some k => k.flds.contains f | none => false), tkL tk n⟩
theorem vcallN_eq {G : Tab} {tk n f : Nat} {d : Fn} (e : G.fns[f]? = some d) (vs : List PV) (w : W) : vcallN G tk (n + 1) f vs w = runV (vcallsN G tk n) d vs w := by
  show (match G.fns[f]? with
    | some d => runV _ d vs w
    | none => VC.stk) = _
  rw [e]
  rfl
theorem vcallsN_f (G : Tab) (tk n : Nat) : (vcallsN G tk n).f = vcallN G tk n := rfl
theorem vcallsN_i (G : Tab) (tk n : Nat) : (vcallsN G tk (n + 1)).i = vcallN G tk n := rfl
theorem vcallsN_tk (G : Tab) (tk n : Nat) : (vcallsN G tk (n + 1)).tk = some tk := rfl
end MP

set_option Elab.async false
set_option linter.all false
set_option maxRecDepth 100000
set_option maxHeartbeats 4000000
set_option autoImplicit false
/-! VEc: how values lie on the heap; what a step may change. -/
namespace MP
open PySem PySem.Spec L2

/-- what a cell is: a list that stands still, one held in passing, an object, the draws' list, an owned list -/
inductive Tag where
  | fz
  | tmp
  | obj
  | drw
  | pl (b : Nat) (q : Pl)
structure MS where
  h : Hs
  mu : List Nat
  ow : Nat → Tag
def tgP (b : Nat) : Pl → Tag
  | .sl i => .pl b (.sl i)
  | q => .pl 0 q
mutual
inductive DF (M : MS) : PV → Val → Prop
  | non : DF M .non .non
  | bl (b : Bool) : DF M (.bl b) (.bl b)
  | int (i : Int) : DF M (.int i) (.int i)
  | str (s : List Nat) : DF M (.str s) (.str s)
  | tup {ps : List PV} {vs : List Val} : DFs M ps vs → DF M (.tup ps) (.tup vs)
  | lst {n : Nat} {ps : List PV} {vs : List Val} : M.ow n = .fz → M.h[n]? = some (.lst vs) → DFs M ps vs → DF M (.lst .sh ps) (.ref n)
  | ref {k n : Nat} : M.mu[k]? = some n → DF M (.ref k) (.ref n)
  | drw : DF M .drw (.ref 2)
inductive DFs (M : MS) : List PV → List Val → Prop
  | nil : DFs M [] []
  | cons {p : PV} {v : Val} {ps : List PV} {vs : List Val} : DF M p v → DFs M ps vs → DFs M (p :: ps) (v :: vs)
end
/-- as it lies just now -/
inductive DL (M : MS) : PV → Val → Prop
  | f {p : PV} {v : Val} : DF M p v → DL M p v
  | l {n : Nat} {ps : List PV} {vs : List Val} : M.h[n]? = some (.lst vs) → DFs M ps vs → DL M (.lst .ow ps) (.ref n)
inductive DLs (M : MS) : List PV → List Val → Prop
  | nil : DLs M [] []
  | cons {p : PV} {v : Val} {ps : List PV} {vs : List Val} : DL M p v → DLs M ps vs → DLs M (p :: ps) (v :: vs)
/-- with an owner -/
inductive DO (M : MS) (t : Tag) : PV → Val → Prop
  | f {p : PV} {v : Val} : DF M p v → DO M t p v
  | l {n : Nat} {ps : List PV} {vs : List Val} : M.ow n = t → M.h[n]? = some (.lst vs) → DFs M ps vs → DO M t (.lst .ow ps) (.ref n)
inductive DOs (M : MS) (t : Tag) : List PV → List Val → Prop
  | nil : DOs M t [] []
  | cons {p : PV} {v : Val} {ps : List PV} {vs : List Val} : DO M t p v → DOs M t ps vs → DOs M t (p :: ps) (v :: vs)
theorem DO.dl {M : MS} {t : Tag} {p : PV} {v : Val} (d : DO M t p v) : DL M p v := by
  cases d with
  | f d => exact .f d
  | l _ h d => exact .l h d
theorem DO.sh {M : MS} {t : Tag} {p : PV} {v : Val} (d : DO M t p v) (h : isOw p = false) : DF M p v := by
  cases d with
  | f d => exact d
  | l _ _ _ => cases h
theorem DF.noow {M : MS} {p : PV} {v : Val} (d : DF M p v) : isOw p = false := by cases d <;> rfl
theorem DF.shr {M : MS} {p : PV} {v : Val} (d : DF M p v) : p.shr = p := by cases d <;> rfl
/-- the cell of an owned list -/
def cellO : PV → Val → Option Nat
  | .lst .ow _, .ref n => some n
  | _, _ => none
/-! ### what may change -/
structure Keep (P : Tag → Prop) (M M' : MS) : Prop where
  len : M.h.length ≤ M'.h.length
  mu : ∀ k n : Nat, M.mu[k]? = some n → M'.mu[k]? = some n
  at_ : ∀ n, n < M.h.length → P (M.ow n) → M'.ow n = M.ow n ∧ M'.h[n]? = M.h[n]?
theorem lt_of {h : Hs} {n : Nat} {o : Ob} (e : h[n]? = some o) : n < h.length := (List.getElem?_eq_some_iff.mp e).1
section
variable {P : Tag → Prop} {M M' : MS}
mutual
theorem DF.keep (K : Keep P M M') (hf : P .fz) : ∀ (p : PV) (v : Val), DF M p v → DF M' p v
  | .non, _, d => by cases d; exact .non
  | .bl b, _, d => by cases d; exact .bl b
  | .int i, _, d => by cases d; exact .int i
  | .str s, _, d => by cases d; exact .str s
  | .tup ps, _, d => by
    cases d with
    | tup d => exact .tup (DFs.keep K hf ps _ d)
  | .lst o ps, _, d => by
    cases d with
    | lst h1 h2 d =>
      obtain ⟨k1, k2⟩ := K.at_ _ (lt_of h2) (by rw [h1]; exact hf)
      exact .lst (by rw [k1]; exact h1) (by rw [k2]; exact h2) (DFs.keep K hf ps _ d)
  | .ref k, _, d => by
    cases d with
    | ref h => exact .ref (K.mu _ _ h)
  | .drw, _, d => by cases d; exact .drw
theorem DFs.keep (K : Keep P M M') (hf : P .fz) : ∀ (ps : List PV) (vs : List Val), DFs M ps vs → DFs M' ps vs
  | [], _, d => by cases d; exact .nil
  | p :: ps, _, d => by
    cases d with
    | cons d1 d2 => exact .cons (DF.keep K hf p _ d1) (DFs.keep K hf ps _ d2)
end
theorem DO.keep (K : Keep P M M') (hf : P .fz) {t : Tag} (ht : P t) {p : PV} {v : Val} (d : DO M t p v) : DO M' t p v := by
  cases d with
  | f d => exact .f (DF.keep K hf _ _ d)
  | l h1 h2 d =>
    obtain ⟨k1, k2⟩ := K.at_ _ (lt_of h2) (by rw [h1]; exact ht)
    exact .l (by rw [k1]; exact h1) (by rw [k2]; exact h2) (DFs.keep K hf _ _ d)
theorem DOs.keep (K : Keep P M M') (hf : P .fz) {t : Tag} (ht : P t) {ps : List PV} {vs : List Val} (d : DOs M t ps vs) : DOs M' t ps vs := by
  induction d with
  | nil => exact .nil
  | cons d _ ih => exact .cons (d.keep K hf ht) ih
theorem Keep.refl (P : Tag → Prop) (M : MS) : Keep P M M := ⟨Nat.le_refl _, fun _ _ h => h, fun _ _ _ => ⟨rfl, rfl⟩⟩
theorem Keep.weak {P' : Tag → Prop} (K : Keep P M M') (h : ∀ t, P' t → P t) : Keep P' M M' := ⟨K.len, K.mu, fun n hn hp => K.at_ n hn (h _ hp)⟩
theorem Keep.trans {M'' : MS} (K : Keep P M M') (K' : Keep P M' M'') : Keep P M M'' := ⟨Nat.le_trans K.len K'.len, fun k n h => K'.mu k n (K.mu k n h), fun n hn hp => by
  obtain ⟨a1, a2⟩ := K.at_ n hn hp
  obtain ⟨b1, b2⟩ := K'.at_ n (Nat.lt_of_lt_of_le hn K.len) (by rw [a1]; exact hp)
  exact ⟨b1.trans a1, b2.trans a2⟩⟩
theorem DFs.len {M : MS} : ∀ {ps : List PV} {vs : List Val}, DFs M ps vs → ps.length = vs.length
  | [], _, d => by cases d; rfl
  | _ :: _, _, d => by
    cases d with
    | cons _ d => simp [DFs.len d]
theorem DFs.get {M : MS} : ∀ {ps : List PV} {vs : List Val} {i : Nat} {p : PV}, DFs M ps vs → ps[i]? = some p → ∃ v, vs[i]? = some v ∧ DF M p v
  | [], _, _, _, _, e => by simp at e
  | _ :: _, _, 0, _, d, e => by
    cases d with
    | cons d1 _ => simp at e; subst e; exact ⟨_, rfl, d1⟩
  | _ :: _, _, i + 1, _, d, e => by
    cases d with
    | cons _ d2 =>
      obtain ⟨v, q, r⟩ := DFs.get d2 (i := i) (by simpa using e)
      exact ⟨v, by simpa using q, r⟩
theorem DFs.app {M : MS} : ∀ {ps qs : List PV} {vs ws : List Val}, DFs M ps vs → DFs M qs ws → DFs M (ps ++ qs) (vs ++ ws)
  | [], _, _, _, d, d' => by cases d; exact d'
  | _ :: _, _, _, _, d, d' => by
    cases d with
    | cons d1 d2 => exact .cons d1 (DFs.app d2 d')
theorem DFs.take {M : MS} : ∀ {ps : List PV} {vs : List Val} (n : Nat), DFs M ps vs → DFs M (ps.take n) (vs.take n)
  | _, _, 0, _ => by simp; exact .nil
  | [], _, n + 1, d => by cases d; exact .nil
  | _ :: _, _, n + 1, d => by
    cases d with
    | cons d1 d2 => exact .cons d1 (DFs.take n d2)
theorem DFs.drop {M : MS} : ∀ {ps : List PV} {vs : List Val} (n : Nat), DFs M ps vs → DFs M (ps.drop n) (vs.drop n)
  | _, _, 0, d => by simpa using d
  | [], _, n + 1, d => by cases d; exact .nil
  | _ :: _, _, n + 1, d => by
    cases d with
    | cons _ d2 => exact DFs.drop n d2
theorem DFs.set {M : MS} : ∀ {ps : List PV} {vs : List Val} (i : Nat) {p : PV} {v : Val}, DFs M ps vs → DF M p v → DFs M (ps.set i p) (vs.set i v)
  | [], _, _, _, _, d, _ => by cases d; exact .nil
  | _ :: _, _, 0, _, _, d, r => by
    cases d with
    | cons _ d2 => exact .cons r d2
  | _ :: _, _, i + 1, _, _, d, r => by
    cases d with
    | cons d1 d2 => exact .cons d1 (DFs.set i d2 r)
theorem DFs.cut {M : MS} {ps : List PV} {vs : List Val} (d : DFs M ps vs) (lo hi : Option Int) : DFs M (cutL ps lo hi) (cutL vs lo hi) := by
  unfold cutL
  rw [d.len]
  exact (d.drop _).take _
theorem DFs.rep {M : MS} {ps : List PV} {vs : List Val} (d : DFs M ps vs) : ∀ k : Nat, DFs M (List.replicate k ps).flatten (List.replicate k vs).flatten
  | 0 => .nil
  | k + 1 => by
    rw [List.replicate_succ, List.replicate_succ, List.flatten_cons, List.flatten_cons]
    exact d.app (DFs.rep d k)
theorem DFs.last {M : MS} {ps : List PV} {vs : List Val} {p : PV} (d : DFs M ps vs) (e : ps.getLast? = some p) : ∃ v, vs.getLast? = some v ∧ DF M p v ∧ DFs M ps.dropLast vs.dropLast := by
  rw [List.getLast?_eq_getElem?] at e
  obtain ⟨v, h1, h2⟩ := d.get e
  refine ⟨v, by rw [List.getLast?_eq_getElem?, ← d.len]; exact h1, h2, ?_⟩
  rw [List.dropLast_eq_take, List.dropLast_eq_take, ← d.len]
  exact d.take _
theorem DFs.noow {M : MS} {ps : List PV} {vs : List Val} (d : DFs M ps vs) : ∀ p ∈ ps, p.shr = p ∧ isOw p = false := by
  intro p hp
  obtain ⟨i, hi⟩ := List.mem_iff_getElem?.mp hp
  obtain ⟨v, _, r⟩ := d.get hi
  exact ⟨r.shr, r.noow⟩
theorem DFs.shrs {M : MS} {ps : List PV} {vs : List Val} (d : DFs M ps vs) : ps.map PV.shr = ps := by
  conv => rhs; rw [← List.map_id ps]
  exact List.map_congr_left fun p hp => (d.noow p hp).1
theorem DFs.atI {M : MS} {ps : List PV} {vs : List Val} {i : Int} {p : PV} (d : DFs M ps vs) (e : atI ps i = some p) : ∃ v, L2.atI vs i = some v ∧ DF M p v := by
  unfold L2.atI at e ⊢
  rw [d.len] at e
  cases q : ixN vs.length i with
  | none => rw [q] at e; cases e
  | some j =>
    rw [q] at e
    exact d.get e
end
/-! ### objects -/
inductive GD {κ : Type} (M : MS) (mk : κ → Pl) : List (κ × PV) → List (κ × Val) → Prop
  | nil : GD M mk [] []
  | cons {f : κ} {p : PV} {v : Val} {r : List (κ × PV)} {s : List (κ × Val)} : DO M (.pl 0 (mk f)) p v → GD M mk r s → GD M mk ((f, p) :: r) ((f, v) :: s)
def ObD (M : MS) (k n : Nat) : VOb → Prop
  | .ins c fs => ∃ gs, M.h[n]? = some (.ins c gs) ∧ GD M (.fl k) fs gs ∧ (fs.map (·.1)).Nodup
  | .dct kvs => ∃ gs, M.h[n]? = some (.dct gs) ∧ GD M (.en k) kvs gs ∧ (kvs.map (·.1)).Nodup
structure HOK (M : MS) (w : W) : Prop where
  dr : ∃ r, M.h = w.d.1.hs ++ r
  o2 : ∀ n, n < 3 → M.ow n = .drw
  ml : M.mu.length = w.H.ob.length
  mi : ∀ i j n : Nat, M.mu[i]? = some n → M.mu[j]? = some n → i = j
  ob : ∀ (k : Nat) (o : VOb), w.H.ob[k]? = some o → ∃ n, M.mu[k]? = some n ∧ M.ow n = .obj ∧ ObD M k n o
structure Sim (b : Nat) (s : VSl) (w : W) (st : Sl) (M : MS) : Prop where
  hp : HOK M w
  len : s.length = st.length
  sl : ∀ (i : Nat) (p : PV), s[i]? = some (some p) → ∃ v, st[i]? = some (some v) ∧ DO M (.pl b (.sl i)) p v
section
variable {P : Tag → Prop} {M M' : MS}
theorem GD.keep {κ : Type} {mk : κ → Pl} (K : Keep P M M') (hf : P .fz) {r : List (κ × PV)} {s : List (κ × Val)} (d : GD M mk r s) (h : ∀ f ∈ r.map (·.1), P (.pl 0 (mk f))) : GD M' mk r s := by
  induction d with
  | nil => exact .nil
  | cons d1 _ ih => exact .cons (d1.keep K hf (h _ (by simp))) (ih fun f hf => h f (by simp at hf ⊢; exact .inr hf))
def Pl.obj : Pl → Option Nat
  | .sl _ => none
  | .fl k _ => some k
  | .en k _ => some k
theorem ObD.keep (K : Keep P M M') (hf : P .fz) {k n : Nat} (hn : M'.h[n]? = M.h[n]?) (hp : ∀ q : Pl, q.obj = some k → P (.pl 0 q)) {o : VOb} (d : ObD M k n o) : ObD M' k n o := by
  cases o with
  | ins c fs =>
    obtain ⟨gs, h1, h2, h3⟩ := d
    exact ⟨gs, by rw [hn]; exact h1, h2.keep K hf fun f _ => hp _ rfl, h3⟩
  | dct kvs =>
    obtain ⟨gs, h1, h2, h3⟩ := d
    exact ⟨gs, by rw [hn]; exact h1, h2.keep K hf fun f _ => hp _ rfl, h3⟩
theorem obd_lt {k n : Nat} {o : VOb} (d : ObD M k n o) : n < M.h.length := by
  cases o with
  | ins c fs => obtain ⟨gs, h1, _⟩ := d; exact lt_of h1
  | dct kvs => obtain ⟨gs, h1, _⟩ := d; exact lt_of h1
/-- nothing of the objects changed -/
theorem HOK.keep (K : Keep P M M') (hf : P .fz) (ho : P .obj) (hd : P .drw) (hp : ∀ q : Pl, q.obj ≠ none → P (.pl 0 q)) {w : W} (r : HOK M w) (hdr : ∃ r, M'.h = w.d.1.hs ++ r) (hm : M'.mu = M.mu) : HOK M' w := by
  have l2 : 3 ≤ M.h.length := by
    obtain ⟨x, e⟩ := r.dr
    rw [e, List.length_append]
    have : w.d.1.hs.length = 3 := rfl
    omega
  refine ⟨hdr, fun n hn => ?_, by rw [hm]; exact r.ml, by rw [hm]; exact r.mi, fun k o e => ?_⟩
  · rw [(K.at_ n (by omega) (by rw [r.o2 n hn]; exact hd)).1]; exact r.o2 n hn
  · obtain ⟨n, h1, h2, h3⟩ := r.ob k o e
    obtain ⟨a1, a2⟩ := K.at_ n (obd_lt h3) (by rw [h2]; exact ho)
    exact ⟨n, by rw [hm]; exact h1, by rw [a1]; exact h2, h3.keep K hf a2 fun q hq => hp q (by rw [hq]; simp)⟩
end
/-! ### a step -/
/-- from M on, what a step at depth b leaves -/
structure Le (b : Nat) (M M' : MS) : Prop where
  len : M.h.length ≤ M'.h.length
  mu : ∀ k n : Nat, M.mu[k]? = some n → M'.mu[k]? = some n
  fz : ∀ n, n < M.h.length → M.ow n = .fz → M'.ow n = .fz ∧ M'.h[n]? = M.h[n]?
  tmp : ∀ n, n < M.h.length → M.ow n = .tmp → M'.ow n = .tmp ∧ M'.h[n]? = M.h[n]?
  obj : ∀ n, n < M.h.length → M.ow n = .obj → M'.ow n = .obj
  sl : ∀ n e i, n < M.h.length → M.ow n = .pl e (.sl i) → e < b → M'.ow n = .pl e (.sl i) ∧ M'.h[n]? = M.h[n]?
theorem Le.refl (b : Nat) (M : MS) : Le b M M := ⟨Nat.le_refl _, fun _ _ h => h, fun _ _ h => ⟨h, rfl⟩, fun _ _ h => ⟨h, rfl⟩, fun _ _ h => h, fun _ _ _ _ h _ => ⟨h, rfl⟩⟩
theorem Le.trans {b : Nat} {M M1 M2 : MS} (l : Le b M M1) (l' : Le b M1 M2) : Le b M M2 := by
  refine ⟨Nat.le_trans l.len l'.len, fun k n h => l'.mu k n (l.mu k n h), fun n hn h => ?_, fun n hn h => ?_, fun n hn h => ?_, fun n e i hn h he => ?_⟩
  · obtain ⟨a1, a2⟩ := l.fz n hn h
    obtain ⟨b1, b2⟩ := l'.fz n (Nat.lt_of_lt_of_le hn l.len) a1
    exact ⟨b1, b2.trans a2⟩
  · obtain ⟨a1, a2⟩ := l.tmp n hn h
    obtain ⟨b1, b2⟩ := l'.tmp n (Nat.lt_of_lt_of_le hn l.len) a1
    exact ⟨b1, b2.trans a2⟩
  · exact l'.obj n (Nat.lt_of_lt_of_le hn l.len) (l.obj n hn h)
  · obtain ⟨a1, a2⟩ := l.sl n e i hn h he
    obtain ⟨b1, b2⟩ := l'.sl n e i (Nat.lt_of_lt_of_le hn l.len) a1 he
    exact ⟨b1, b2.trans a2⟩
theorem Le.down {b b' : Nat} {M M' : MS} (l : Le b' M M') (h : b ≤ b') : Le b M M' := ⟨l.len, l.mu, l.fz, l.tmp, l.obj, fun n e i hn ht he => l.sl n e i hn ht (Nat.lt_of_lt_of_le he h)⟩
def PFT (t : Tag) : Prop := t = .fz ∨ t = .tmp
theorem Le.keepF {b : Nat} {M M' : MS} (l : Le b M M') : Keep PFT M M' := ⟨l.len, l.mu, fun n hn hp => by
  rcases hp with e | e
  · rw [e]; exact l.fz n hn e
  · rw [e]; exact l.tmp n hn e⟩
theorem Le.df {b : Nat} {M M' : MS} (l : Le b M M') {p : PV} {v : Val} (d : DF M p v) : DF M' p v := DF.keep l.keepF (.inl rfl) _ _ d
theorem Le.dfs {b : Nat} {M M' : MS} (l : Le b M M') {p : List PV} {v : List Val} (d : DFs M p v) : DFs M' p v := DFs.keep l.keepF (.inl rfl) _ _ d
theorem Le.dt {b : Nat} {M M' : MS} (l : Le b M M') {p : PV} {v : Val} (d : DO M .tmp p v) : DO M' .tmp p v := d.keep l.keepF (.inl rfl) (.inr rfl)
theorem Le.dts {b : Nat} {M M' : MS} (l : Le b M M') {p : List PV} {v : List Val} (d : DOs M .tmp p v) : DOs M' .tmp p v := d.keep l.keepF (.inl rfl) (.inr rfl)
/-- nothing changed, something new -/
structure Tk (w : W) (M : MS) (w' : W) (M' : MS) : Prop where
  t : w.H.t ≤ w'.H.t
  o : w'.H.t = w.H.t → ∀ n, n < M.h.length → M.ow n = .obj → M'.h[n]? = M.h[n]?
  u : w.H.u ≤ w'.H.u
  l : w'.H.u = w.H.u → ∀ n q, n < M.h.length → q.obj ≠ none → M.ow n = .pl 0 q → M'.h[n]? = M.h[n]? ∧ (M'.ow n = .pl 0 q ∨ M'.ow n = .fz)
theorem Tk.refl (w : W) (M : MS) : Tk w M w M := ⟨Nat.le_refl _, fun _ _ _ _ => rfl, Nat.le_refl _, fun _ _ _ _ _ h => ⟨rfl, .inl h⟩⟩
theorem Tk.trans0 {b : Nat} {w w1 w2 : W} {M M1 M2 : MS} (l : Le b M M1) (lf : ∀ n, n < M1.h.length → M1.ow n = .fz → M2.ow n = .fz ∧ M2.h[n]? = M1.h[n]?) (k : Tk w M w1 M1) (k' : Tk w1 M1 w2 M2) : Tk w M w2 M2 := by
  have h1 := k.t
  have h2 := k'.t
  have h3 := k.u
  have h4 := k'.u
  refine ⟨Nat.le_trans k.t k'.t, fun e n hn ho => ?_, Nat.le_trans k.u k'.u, fun e n q hn hq ho => ?_⟩
  · rw [k'.o (by omega) n (Nat.lt_of_lt_of_le hn l.len) (l.obj n hn ho), k.o (by omega) n hn ho]
  · obtain ⟨a1, a2⟩ := k.l (by omega) n q hn hq ho
    rcases a2 with a2 | a2
    · obtain ⟨b1, b2⟩ := k'.l (by omega) n q (Nat.lt_of_lt_of_le hn l.len) hq a2
      exact ⟨b1.trans a1, b2⟩
    · obtain ⟨b1, b2⟩ := lf n (Nat.lt_of_lt_of_le hn l.len) a2
      exact ⟨b2.trans a1, .inr b1⟩
theorem Tk.trans {b : Nat} {w w1 w2 : W} {M M1 M2 : MS} (l : Le b M M1) (l' : Le b M1 M2) (k : Tk w M w1 M1) (k' : Tk w1 M1 w2 M2) : Tk w M w2 M2 := Tk.trans0 l l'.fz k k'
/-- a temporary that is not one of the start's -/
def Fr (M : MS) (p : PV) (v : Val) : Prop := ∀ n, cellO p v = some n → n < M.h.length → M.ow n ≠ .tmp
theorem Fr.back {b : Nat} {M M1 : MS} {p : PV} {v : Val} (l : Le b M M1) (f : Fr M1 p v) : Fr M p v := fun n e hn h => f n e (Nat.lt_of_lt_of_le hn l.len) (l.tmp n hn h).1
theorem Fr.df {M M1 : MS} {p : PV} {v : Val} (d : DF M1 p v) : Fr M p v := fun n e => by
  cases d <;> cases e
/-- a value or a place, and what stands for it -/
def RR (M : MS) (st : Sl) (w : W) : RL → Val → Prop
  | .v x, u => DO M .tmp x u
  | .p (.sl i) _, u => st[i]? = some (some u)
  | .p (.fl k f) t, u => t ≤ w.H.t ∧ (w.H.t = t → ∃ n c gs, M.mu[k]? = some n ∧ M.h[n]? = some (.ins c gs) ∧ gs.lookup f = some u)
  | .p (.en k key) t, u => t ≤ w.H.t ∧ (w.H.t = t → ∃ n gs, M.mu[k]? = some n ∧ M.h[n]? = some (.dct gs) ∧ dget gs key = some u)
def FrR (M : MS) : RL → Val → Prop
  | .v x, u => Fr M x u
  | _, _ => True
theorem RR.mono {b : Nat} {M M1 : MS} {st : Sl} {w w1 : W} {s : VSl} (sim : Sim b s w st M) (l : Le b M M1) (k : Tk w M w1 M1) : ∀ {r : RL} {u : Val}, RR M st w r u → RR M1 st w1 r u
  | .v x, u, h => l.dt h
  | .p (.sl i) _, u, h => h
  | .p (.fl k0 f) t, u, ⟨h1, h2⟩ => by
    refine ⟨Nat.le_trans h1 k.t, fun e => ?_⟩
    have kt := k.t
    obtain ⟨n, c, gs, a1, a2, a3⟩ := h2 (by omega)
    have hk : k0 < M.mu.length := (List.getElem?_eq_some_iff.mp a1).1
    have hk' : k0 < w.H.ob.length := by rw [← sim.hp.ml]; exact hk
    obtain ⟨n', b1, b2, _⟩ := sim.hp.ob k0 w.H.ob[k0] (List.getElem?_eq_getElem hk')
    rw [a1] at b1
    cases b1
    exact ⟨n, c, gs, l.mu _ _ a1, by rw [k.o (by omega) n (lt_of a2) b2]; exact a2, a3⟩
  | .p (.en k0 key) t, u, ⟨h1, h2⟩ => by
    refine ⟨Nat.le_trans h1 k.t, fun e => ?_⟩
    have kt := k.t
    obtain ⟨n, gs, a1, a2, a3⟩ := h2 (by omega)
    have hk : k0 < M.mu.length := (List.getElem?_eq_some_iff.mp a1).1
    have hk' : k0 < w.H.ob.length := by rw [← sim.hp.ml]; exact hk
    obtain ⟨n', b1, b2, _⟩ := sim.hp.ob k0 w.H.ob[k0] (List.getElem?_eq_getElem hk')
    rw [a1] at b1
    cases b1
    exact ⟨n, gs, l.mu _ _ a1, by rw [k.o (by omega) n (lt_of a2) b2]; exact a2, a3⟩
theorem FrR.back {b : Nat} {M M1 : MS} (l : Le b M M1) : ∀ {r : RL} {u : Val}, FrR M1 r u → FrR M r u
  | .v _, _, h => Fr.back l h
  | .p _ _, _, _ => trivial
/-! ### a place's value -/
theorem lookup_g {M : MS} {mk : Nat → Pl} : ∀ {r : List (Nat × PV)} {s : List (Nat × Val)} {f : Nat} {p : PV}, GD M mk r s → r.lookup f = some p → ∃ v, s.lookup f = some v ∧ DO M (.pl 0 (mk f)) p v
  | _, _, _, _, .nil, e => by cases e
  | _, _, f, p, .cons (f := g) d ds, e => by
    rw [List.lookup_cons] at e ⊢
    by_cases h : f = g
    · subst h
      simp at e ⊢
      subst e
      exact d
    · have : (f == g) = false := by simpa using h
      rw [this] at e ⊢
      exact lookup_g ds e
theorem lookup_n {M : MS} {mk : Nat → Pl} : ∀ {r : List (Nat × PV)} {s : List (Nat × Val)} {f : Nat}, GD M mk r s → r.lookup f = none → s.lookup f = none
  | _, _, _, .nil, e => rfl
  | _, _, f, .cons (f := g) d ds, e => by
    rw [List.lookup_cons] at e ⊢
    by_cases h : f = g
    · subst h; simp at e
    · have : (f == g) = false := by simpa using h
      rw [this] at e ⊢
      exact lookup_n ds e
theorem vget_cons (g key : Ky) (p : PV) (r : List (Ky × PV)) : vget ((g, p) :: r) key = if g = key then some p else vget r key := by
  unfold vget
  rw [List.find?_cons]
  by_cases h : g = key <;> simp [h]
theorem dget_cons (g key : Ky) (p : Val) (r : List (Ky × Val)) : dget ((g, p) :: r) key = if g = key then some p else dget r key := by
  unfold dget
  rw [List.find?_cons]
  by_cases h : g = key <;> simp [h]
theorem vget_g {M : MS} {mk : Ky → Pl} : ∀ {r : List (Ky × PV)} {s : List (Ky × Val)} {f : Ky} {p : PV}, GD M mk r s → vget r f = some p → ∃ v, dget s f = some v ∧ DO M (.pl 0 (mk f)) p v
  | _, _, _, _, .nil, e => by cases e
  | _, _, f, p, .cons (f := g) d ds, e => by
    rw [vget_cons] at e
    rw [dget_cons]
    by_cases h : g = f
    · subst h
      rw [if_pos rfl] at e ⊢
      cases e
      exact ⟨_, rfl, d⟩
    · rw [if_neg h] at e ⊢
      exact vget_g ds e
theorem vget_n {M : MS} {mk : Ky → Pl} : ∀ {r : List (Ky × PV)} {s : List (Ky × Val)} {f : Ky}, GD M mk r s → vget r f = none → dget s f = none
  | _, _, _, .nil, e => rfl
  | _, _, f, .cons (f := g) d ds, e => by
    rw [vget_cons] at e
    rw [dget_cons]
    by_cases h : g = f
    · subst h; simp at e
    · rw [if_neg h] at e ⊢
      exact vget_n ds e
section
variable {b : Nat} {s : VSl} {w : W} {st : Sl} {M : MS}
theorem HOK.ins (hp : HOK M w) {k c : Nat} {fs : List (Nat × PV)} (e : w.H.ob[k]? = some (.ins c fs)) : ∃ n gs, M.mu[k]? = some n ∧ M.ow n = .obj ∧ M.h[n]? = some (.ins c gs) ∧ GD M (.fl k) fs gs ∧ (fs.map (·.1)).Nodup := by
  obtain ⟨n, h1, h2, gs, h3, h4, h5⟩ := hp.ob k _ e
  exact ⟨n, gs, h1, h2, h3, h4, h5⟩
theorem HOK.dct (hp : HOK M w) {k : Nat} {fs : List (Ky × PV)} (e : w.H.ob[k]? = some (.dct fs)) : ∃ n gs, M.mu[k]? = some n ∧ M.ow n = .obj ∧ M.h[n]? = some (.dct gs) ∧ GD M (.en k) fs gs ∧ (fs.map (·.1)).Nodup := by
  obtain ⟨n, h1, h2, gs, h3, h4, h5⟩ := hp.ob k _ e
  exact ⟨n, gs, h1, h2, h3, h4, h5⟩
/-- what is read at a place -/
theorem Sim.at_ (sim : Sim b s w st M) {q : Pl} {t : Nat} {u : Val} {p : PV} (rr : RR M st w (.p q t) u) (hk : okT q t w = true) (e : getP q s w = some p) : DO M (tgP b q) p u := by
  cases q with
  | sl i =>
    simp only [getP, slG'] at e
    split at e
    · rename_i v hv
      cases e
      obtain ⟨v', h1, h2⟩ := sim.sl i _ hv
      have : st[i]? = some (some u) := rr
      rw [this] at h1
      cases h1
      exact h2
    · cases e
  | fl k f =>
    simp only [okT, beq_iff_eq] at hk
    obtain ⟨_, r2⟩ := rr
    obtain ⟨n, c, gs, a1, a2, a3⟩ := r2 hk
    simp only [getP, obF] at e
    split at e
    · rename_i c' fs hv
      obtain ⟨n', gs', b1, b2, b3, b4, _⟩ := sim.hp.ins hv
      rw [a1] at b1
      cases b1
      rw [a2] at b3
      cases b3
      obtain ⟨v, c1, c2⟩ := lookup_g b4 e
      rw [a3] at c1
      cases c1
      exact c2
    · cases e
  | en k key =>
    simp only [okT, beq_iff_eq] at hk
    obtain ⟨_, r2⟩ := rr
    obtain ⟨n, gs, a1, a2, a3⟩ := r2 hk
    simp only [getP, obE] at e
    split at e
    · rename_i fs hv
      obtain ⟨n', gs', b1, b2, b3, b4, _⟩ := sim.hp.dct hv
      rw [a1] at b1
      cases b1
      rw [a2] at b3
      cases b3
      obtain ⟨v, c1, c2⟩ := vget_g b4 e
      rw [a3] at c1
      cases c1
      exact c2
    · cases e
theorem Sim.ldB (sim : Sim b s w st M) {r : RL} {u : Val} {x : PV} (rr : RR M st w r u) (e : MP.ldB r s w = some x) : DL M x u := by
  cases r with
  | v y =>
    cases e
    exact DO.dl rr
  | p q t =>
    simp only [MP.ldB] at e
    split at e
    · rename_i hk
      exact (sim.at_ rr hk e).dl
    · cases e
theorem DL.sh {M : MS} {x : PV} {u : Val} (d : DL M x u) (h : isOw x = false) : DF M x u := by
  cases d with
  | f d => exact d
  | l _ _ => cases h
end
end MP

set_option Elab.async false
set_option linter.all false
set_option maxRecDepth 100000
set_option maxHeartbeats 4000000
set_option autoImplicit false
/-! VEd: the steps that change something. -/
namespace MP
open PySem PySem.Spec L2

/-- the tags that a step at depth b keeps -/
def Std (b : Nat) (t : Tag) : Prop := t = .fz ∨ t = .tmp ∨ t = .obj ∨ ∃ e i, t = .pl e (.sl i) ∧ e < b
theorem Keep.le {P : Tag → Prop} {b : Nat} {M M' : MS} (K : Keep P M M') (h : ∀ t, Std b t → P t) : Le b M M' :=
  ⟨K.len, K.mu, fun n hn e => by rw [← e]; exact K.at_ n hn (h _ (.inl e)), fun n hn e => by rw [← e]; exact K.at_ n hn (h _ (.inr (.inl e))), fun n hn e => by rw [← e]; exact (K.at_ n hn (h _ (.inr (.inr (.inl e))))).1,
    fun n e i hn ht he => by rw [← ht]; exact K.at_ n hn (h _ (.inr (.inr (.inr ⟨e, i, ht, he⟩))))⟩
theorem Sim.keep {P : Tag → Prop} {b : Nat} {s : VSl} {w : W} {st : Sl} {M M' : MS} (sim : Sim b s w st M) (K : Keep P M M') (hf : P .fz) (ho : P .obj) (hd : P .drw) (hp : ∀ q : Pl, q.obj ≠ none → P (.pl 0 q)) (hs : ∀ i, P (.pl b (.sl i)))
    (hdr : ∃ r, M'.h = w.d.1.hs ++ r) (hm : M'.mu = M.mu) : Sim b s w st M' :=
  ⟨sim.hp.keep K hf ho hd hp hdr hm, sim.len, fun i p e => by
    obtain ⟨v, h1, h2⟩ := sim.sl i p e
    exact ⟨v, h1, h2.keep K hf (hs i)⟩⟩
/-! ### a new cell -/
def MS.new (M : MS) (o : Ob) (t : Tag) : MS := ⟨M.h ++ [o], M.mu, fun n => if n = M.h.length then t else M.ow n⟩
section
variable {M : MS} {o : Ob} {t : Tag}
theorem new_at : (M.new o t).h[M.h.length]? = some o := by simp [MS.new]
theorem new_ow : (M.new o t).ow M.h.length = t := by simp [MS.new]
theorem new_keep : Keep (fun _ => True) M (M.new o t) := ⟨by simp [MS.new], fun _ _ h => h, fun n hn _ => by
  refine ⟨?_, ?_⟩
  · show (if n = M.h.length then t else M.ow n) = M.ow n
    rw [if_neg (by omega)]
  · show (M.h ++ [o])[n]? = _
    rw [List.getElem?_append_left hn]⟩
theorem new_le {b : Nat} : Le b M (M.new o t) := new_keep.le fun _ _ => trivial
theorem new_tk {w : W} : Tk w M w (M.new o t) := ⟨Nat.le_refl _, fun _ n hn _ => (new_keep.at_ n hn trivial).2, Nat.le_refl _, fun _ n q hn _ h => ⟨(new_keep.at_ n hn trivial).2, .inl ((new_keep.at_ n hn trivial).1.trans h)⟩⟩
theorem new_dr {w : W} (h : ∃ r, M.h = w.d.1.hs ++ r) : ∃ r, (M.new o t).h = w.d.1.hs ++ r := by
  obtain ⟨r, e⟩ := h
  exact ⟨r ++ [o], by show M.h ++ [o] = _; rw [e, List.append_assoc]⟩
theorem Sim.new {b : Nat} {s : VSl} {w : W} {st : Sl} (sim : Sim b s w st M) : Sim b s w st (M.new o t) := sim.keep new_keep trivial trivial trivial (fun _ _ => trivial) (fun _ => trivial) (new_dr sim.hp.dr) rfl
theorem HOK.new {w : W} (hp : HOK M w) : HOK (M.new o t) w := hp.keep new_keep trivial trivial trivial (fun _ _ => trivial) (new_dr hp.dr) rfl
theorem new_df {p : PV} {v : Val} (d : DF M p v) : DF (M.new o t) p v := DF.keep new_keep trivial _ _ d
theorem new_dfs {p : List PV} {v : List Val} (d : DFs M p v) : DFs (M.new o t) p v := DFs.keep new_keep trivial _ _ d
end
/-- a new list, held in passing -/
theorem new_tmp {M : MS} {ps : List PV} {vs : List Val} (d : DFs M ps vs) : DO (M.new (.lst vs) .tmp) .tmp (.lst .ow ps) (.ref M.h.length) := .l new_ow new_at (new_dfs d)
theorem fr_new {M : MS} {p : PV} : Fr M p (.ref M.h.length) := fun n e hn => by
  cases p <;> try (cases e)
  rename_i o _
  cases o <;> cases e
  omega
/-! ### temporaries that stand still from now on -/
def MS.fzA (M : MS) (S : Nat → Bool) : MS := ⟨M.h, M.mu, fun n => if S n = true then .fz else M.ow n⟩
section
variable {M : MS} {S : Nat → Bool}
theorem fz_keep (hS : ∀ n, S n = true → M.ow n = .tmp) : Keep (fun t => t ≠ .tmp) M (M.fzA S) := ⟨Nat.le_refl _, fun _ _ h => h, fun n hn h => by
  refine ⟨?_, rfl⟩
  show (if S n = true then Tag.fz else M.ow n) = M.ow n
  by_cases c : S n = true
  · exact absurd (hS n c) h
  · rw [if_neg c]⟩
theorem fz_le {b : Nat} {M0 : MS} (l : Le b M0 M) (hS : ∀ n, S n = true → M.ow n = .tmp) (hf : ∀ n, S n = true → n < M0.h.length → M0.ow n ≠ .tmp) : Le b M0 (M.fzA S) := by
  have key : ∀ n, M.ow n ≠ .tmp → (M.fzA S).ow n = M.ow n := fun n h => by
    show (if S n = true then Tag.fz else M.ow n) = M.ow n
    by_cases c : S n = true
    · exact absurd (hS n c) h
    · rw [if_neg c]
  refine ⟨l.len, l.mu, fun n hn e => ?_, fun n hn e => ?_, fun n hn e => ?_, fun n e i hn ht he => ?_⟩
  · obtain ⟨a1, a2⟩ := l.fz n hn e
    exact ⟨(key n (by rw [a1]; simp)).trans a1, a2⟩
  · obtain ⟨a1, a2⟩ := l.tmp n hn e
    refine ⟨?_, a2⟩
    show (if S n = true then Tag.fz else M.ow n) = Tag.tmp
    by_cases c : S n = true
    · exact absurd e (hf n c hn)
    · rw [if_neg c]; exact a1
  · have a1 := l.obj n hn e
    exact (key n (by rw [a1]; simp)).trans a1
  · obtain ⟨a1, a2⟩ := l.sl n e i hn ht he
    exact ⟨(key n (by rw [a1]; simp)).trans a1, a2⟩
theorem Sim.fzA {b : Nat} {s : VSl} {w : W} {st : Sl} (sim : Sim b s w st M) (hS : ∀ n, S n = true → M.ow n = .tmp) : Sim b s w st (M.fzA S) :=
  sim.keep (fz_keep hS) (by simp) (by simp) (by simp) (fun _ _ => by simp) (fun _ => by simp) sim.hp.dr rfl
theorem HOK.fzA {w : W} (hp : HOK M w) (hS : ∀ n, S n = true → M.ow n = .tmp) : HOK (M.fzA S) w :=
  hp.keep (fz_keep hS) (by simp) (by simp) (by simp) (fun _ _ => by simp) hp.dr rfl
theorem fz_tk {w : W} (hS : ∀ n, S n = true → M.ow n = .tmp) : Tk w M w (M.fzA S) := ⟨Nat.le_refl _, fun _ n hn _ => rfl, Nat.le_refl _, fun _ n q hn _ h => ⟨rfl, .inl (((fz_keep hS).at_ n hn (by rw [h]; simp)).1.trans h)⟩⟩
end
def cellsO : List PV → List Val → List Nat
  | p :: ps, v :: vs => (match cellO p v with | some n => [n] | none => []) ++ cellsO ps vs
  | _, _ => []
theorem cellO_tmp {M : MS} {t : Tag} {p : PV} {v : Val} {n : Nat} (d : DO M t p v) (e : cellO p v = some n) : M.ow n = t := by
  cases d with
  | f d => cases d <;> cases e
  | l h1 h2 d => cases e; exact h1
theorem cellsO_tmp {M : MS} {t : Tag} : ∀ {ps : List PV} {vs : List Val} {n : Nat}, DOs M t ps vs → n ∈ cellsO ps vs → M.ow n = t
  | _, _, _, .nil, h => by simp [cellsO] at h
  | _, _, n, .cons d ds, h => by
    rw [cellsO] at h
    rcases List.mem_append.mp h with h | h
    · cases q : cellO _ _ with
      | none => rw [q] at h; simp at h
      | some m =>
        rw [q] at h
        rw [List.mem_singleton.mp h]
        exact cellO_tmp d q
    · exact cellsO_tmp ds h
/-- all of a row of temporaries -/
theorem shr_df {M : MS} {S : Nat → Bool} (hS : ∀ n, S n = true → M.ow n = .tmp) {p : PV} {v : Val} (d : DO M .tmp p v) (h : ∀ n, cellO p v = some n → S n = true) : DF (M.fzA S) p.shr v := by
  cases d with
  | f d =>
    rw [d.shr]
    exact DF.keep (fz_keep hS) (by simp) _ _ d
  | l h1 h2 d =>
    refine .lst ?_ h2 (DFs.keep (fz_keep hS) (by simp) _ _ d)
    show (if S _ = true then Tag.fz else M.ow _) = .fz
    rw [if_pos (h _ rfl)]
theorem shr_dfs {M : MS} {S : Nat → Bool} (hS : ∀ n, S n = true → M.ow n = .tmp) : ∀ {ps : List PV} {vs : List Val}, DOs M .tmp ps vs → (∀ n ∈ cellsO ps vs, S n = true) → DFs (M.fzA S) (ps.map PV.shr) vs
  | _, _, .nil, _ => .nil
  | _, _, .cons d ds, h => by
    rw [cellsO] at h
    exact .cons (shr_df hS d fun n e => h n (by rw [e]; simp)) (shr_dfs hS ds fun n hn => h n (List.mem_append_right _ hn))
def FrS (M : MS) (ps : List PV) (vs : List Val) : Prop := ∀ n ∈ cellsO ps vs, n < M.h.length → M.ow n ≠ .tmp
/-- one temporary stands still -/
theorem shr1 {b : Nat} {M0 M : MS} {s : VSl} {w : W} {st : Sl} (l : Le b M0 M) (sim : Sim b s w st M) {p : PV} {v : Val} (d : DO M .tmp p v) (f : Fr M0 p v) :
    ∃ M', M'.h = M.h ∧ Le b M0 M' ∧ Tk w M w M' ∧ Sim b s w st M' ∧ DF M' p.shr v ∧ Keep (fun t => t ≠ .tmp) M M' := by
  have hS : ∀ n, decide (cellO p v = some n) = true → M.ow n = .tmp := fun n h => cellO_tmp d (of_decide_eq_true h)
  exact ⟨M.fzA fun n => decide (cellO p v = some n), rfl, fz_le l hS fun n h hn => f n (of_decide_eq_true h) hn, fz_tk hS, sim.fzA hS, shr_df hS d fun n e => decide_eq_true e, fz_keep hS⟩
theorem shrs {b : Nat} {M0 M : MS} {s : VSl} {w : W} {st : Sl} (l : Le b M0 M) (sim : Sim b s w st M) {ps : List PV} {vs : List Val} (d : DOs M .tmp ps vs) (f : FrS M0 ps vs) :
    ∃ M', M'.h = M.h ∧ Le b M0 M' ∧ Tk w M w M' ∧ Sim b s w st M' ∧ DFs M' (ps.map PV.shr) vs ∧ Keep (fun t => t ≠ .tmp) M M' := by
  have hS : ∀ n, decide (n ∈ cellsO ps vs) = true → M.ow n = .tmp := fun n h => cellsO_tmp d (of_decide_eq_true h)
  exact ⟨M.fzA fun n => decide (n ∈ cellsO ps vs), rfl, fz_le l hS fun n h hn => f n (of_decide_eq_true h) hn, fz_tk hS, sim.fzA hS, shr_dfs hS d fun n e => decide_eq_true e, fz_keep hS⟩
/-! ### a list at a place -/
def MS.put (M : MS) (n : Nat) (o : Ob) (t : Tag) : MS := ⟨M.h.set n o, M.mu, fun m => if m = n then t else M.ow m⟩
section
variable {M : MS} {n : Nat} {o : Ob} {t : Tag}
theorem put_keep {P : Tag → Prop} (h : ¬ P (M.ow n)) : Keep P M (M.put n o t) := ⟨by simp [MS.put], fun _ _ h => h, fun m hm hp => by
  have hne : m ≠ n := fun e => h (by rw [← e]; exact hp)
  refine ⟨?_, ?_⟩
  · show (if m = n then t else M.ow m) = M.ow m
    rw [if_neg hne]
  · show (M.h.set n o)[m]? = _
    rw [List.getElem?_set_ne (Ne.symm hne)]⟩
theorem put_at (h : n < M.h.length) : (M.put n o t).h[n]? = some o := by
  show (M.h.set n o)[n]? = _
  rw [List.getElem?_set_self h]
theorem put_ow : (M.put n o t).ow n = t := by simp [MS.put]
end
theorem Pl.obj_ne {q : Pl} {k : Nat} (h : q.obj = some k) : ∀ i, q ≠ .sl i := fun i e => by rw [e] at h; cases h
theorem dr_put {M : MS} {w : W} {n : Nat} {o : Ob} {t : Tag} (h : ∃ r, M.h = w.d.1.hs ++ r) (hn : 3 ≤ n) : ∃ r, (M.put n o t).h = w.d.1.hs ++ r := by
  obtain ⟨r, e⟩ := h
  have l3 : w.d.1.hs.length = 3 := rfl
  refine ⟨r.set (n - 3) o, ?_⟩
  show M.h.set n o = _
  rw [e, List.set_append_right _ _ (by omega), l3]
theorem HOK.pl3 {M : MS} {w : W} (hp : HOK M w) {n b : Nat} {q : Pl} (h : M.ow n = .pl b q) : 3 ≤ n := by
  by_cases c : n < 3
  · rw [hp.o2 n c] at h; cases h
  · omega
theorem HOK.tmp3 {M : MS} {w : W} (hp : HOK M w) {n : Nat} (h : M.ow n = .tmp) : 3 ≤ n := by
  by_cases c : n < 3
  · rw [hp.o2 n c] at h; cases h
  · omega
theorem HOK.obj3 {M : MS} {w : W} (hp : HOK M w) {n : Nat} (h : M.ow n = .obj) : 3 ≤ n := by
  by_cases c : n < 3
  · rw [hp.o2 n c] at h; cases h
  · omega
/-! fields, entries -/
theorem vfput_keys (f : Nat) (p : PV) : ∀ r : List (Nat × PV), (r.map (·.1)).Nodup → ((vfput f p r).map (·.1)).Nodup ∧ ∀ g, g ∈ (vfput f p r).map (·.1) → g = f ∨ g ∈ r.map (·.1)
  | [], _ => by simp
  | (g, x) :: r, h => by
    simp only [List.map_cons, List.nodup_cons] at h
    obtain ⟨h1, h2⟩ := h
    obtain ⟨i1, i2⟩ := vfput_keys f p r h2
    rw [vfput]
    split
    · rename_i e
      subst e
      refine ⟨by simp only [List.map_cons, List.nodup_cons]; exact ⟨h1, h2⟩, fun z hz => ?_⟩
      simp only [List.map_cons, List.mem_cons] at hz ⊢
      rcases hz with hz | hz
      · exact .inl hz
      · exact .inr (.inr hz)
    · rename_i e
      refine ⟨?_, fun z hz => ?_⟩
      · simp only [List.map_cons, List.nodup_cons]
        refine ⟨fun hm => ?_, i1⟩
        rcases i2 g hm with h | h
        · exact e h
        · exact h1 h
      · simp only [List.map_cons, List.mem_cons] at hz ⊢
        rcases hz with hz | hz
        · exact .inr (.inl hz)
        · rcases i2 z hz with h | h
          · exact .inl h
          · exact .inr (.inr h)
theorem GD.fput {P : Tag → Prop} {M M' : MS} {mk : Nat → Pl} {f : Nat} {p : PV} {v : Val} (K : Keep P M M') (hf : P .fz) (h : ∀ g, g ≠ f → P (.pl 0 (mk g))) (dv : DO M' (.pl 0 (mk f)) p v) : ∀ {r : List (Nat × PV)} {s : List (Nat × Val)}, GD M mk r s → (r.map (·.1)).Nodup → GD M' mk (vfput f p r) (MP.fput f v s)
  | _, _, .nil, _ => .cons dv .nil
  | _, _, .cons (f := g) d ds, nd => by
    simp only [List.map_cons, List.nodup_cons] at nd
    rw [vfput, MP.fput]
    by_cases e : g = f
    · rw [if_pos e, if_pos e]
      subst e
      exact .cons dv (ds.keep K hf fun z hz => h z fun q => nd.1 (by rw [← q]; exact hz))
    · rw [if_neg e, if_neg e]
      exact .cons (d.keep K hf (h g e)) (GD.fput K hf h dv ds nd.2)
theorem fput_same {f : Nat} {v : Val} : ∀ {s : List (Nat × Val)}, s.lookup f = some v → MP.fput f v s = s
  | [], e => by cases e
  | (g, x) :: s, e => by
    rw [List.lookup_cons] at e
    rw [MP.fput]
    by_cases h : g = f
    · subst h
      simp at e
      rw [if_pos rfl, e]
    · have : (f == g) = false := by simpa using (Ne.symm h)
      rw [this] at e
      rw [if_neg h, fput_same e]
theorem vput_cons (g k : Ky) (x v : PV) (r : List (Ky × PV)) (nd : ((g :: r.map (·.1))).Nodup) : vput ((g, x) :: r) k v = if g = k then (g, v) :: r else (g, x) :: vput r k v := by
  unfold vput
  by_cases e : g = k
  · subst e
    rw [if_pos (by simp), if_pos rfl, List.map_cons, if_pos rfl]
    congr 1
    conv => rhs; rw [← List.map_id r]
    refine List.map_congr_left fun q hq => ?_
    rw [if_neg fun h => (List.nodup_cons.mp nd).1 (by rw [← h]; exact List.mem_map_of_mem hq)]
    rfl
  · rw [if_neg e, List.any_cons, decide_eq_false e, Bool.false_or]
    by_cases a : (r.any fun kv => decide (kv.1 = k)) = true
    · rw [if_pos a, if_pos a, List.map_cons, if_neg e]
    · rw [if_neg a, if_neg a]
      rfl
theorem dput_cons (g k : Ky) (x v : Val) (r : List (Ky × Val)) (nd : ((g :: r.map (·.1))).Nodup) : dput ((g, x) :: r) k v = if g = k then (g, v) :: r else (g, x) :: dput r k v := by
  unfold dput
  by_cases e : g = k
  · subst e
    rw [if_pos (by simp), if_pos rfl, List.map_cons, if_pos rfl]
    congr 1
    conv => rhs; rw [← List.map_id r]
    refine List.map_congr_left fun q hq => ?_
    rw [if_neg fun h => (List.nodup_cons.mp nd).1 (by rw [← h]; exact List.mem_map_of_mem hq)]
    rfl
  · rw [if_neg e, List.any_cons, decide_eq_false e, Bool.false_or]
    by_cases a : (r.any fun kv => decide (kv.1 = k)) = true
    · rw [if_pos a, if_pos a, List.map_cons, if_neg e]
    · rw [if_neg a, if_neg a]
      rfl
theorem GD.keys {κ : Type} {M : MS} {mk : κ → Pl} : ∀ {r : List (κ × PV)} {s : List (κ × Val)}, GD M mk r s → s.map (·.1) = r.map (·.1)
  | _, _, .nil => rfl
  | _, _, .cons _ ds => by simp [GD.keys ds]
theorem vput_keys (f : Ky) (p : PV) : ∀ r : List (Ky × PV), (r.map (·.1)).Nodup → ((vput r f p).map (·.1)).Nodup ∧ ∀ g, g ∈ (vput r f p).map (·.1) → g = f ∨ g ∈ r.map (·.1)
  | [], _ => by simp [vput]
  | (g, x) :: r, h => by
    rw [vput_cons g f x p r (by simpa using h)]
    simp only [List.map_cons, List.nodup_cons] at h
    obtain ⟨h1, h2⟩ := h
    obtain ⟨i1, i2⟩ := vput_keys f p r h2
    split
    · rename_i e
      subst e
      refine ⟨by simp only [List.map_cons, List.nodup_cons]; exact ⟨h1, h2⟩, fun z hz => ?_⟩
      simp only [List.map_cons, List.mem_cons] at hz ⊢
      rcases hz with hz | hz
      · exact .inl hz
      · exact .inr (.inr hz)
    · rename_i e
      refine ⟨?_, fun z hz => ?_⟩
      · simp only [List.map_cons, List.nodup_cons]
        refine ⟨fun hm => ?_, i1⟩
        rcases i2 g hm with h | h
        · exact e h
        · exact h1 h
      · simp only [List.map_cons, List.mem_cons] at hz ⊢
        rcases hz with hz | hz
        · exact .inr (.inl hz)
        · rcases i2 z hz with h | h
          · exact .inl h
          · exact .inr (.inr h)
theorem GD.eput {P : Tag → Prop} {M M' : MS} {mk : Ky → Pl} {f : Ky} {p : PV} {v : Val} (K : Keep P M M') (hf : P .fz) (h : ∀ g, g ≠ f → P (.pl 0 (mk g))) (dv : DO M' (.pl 0 (mk f)) p v) : ∀ {r : List (Ky × PV)} {s : List (Ky × Val)}, GD M mk r s → (r.map (·.1)).Nodup → GD M' mk (vput r f p) (dput s f v)
  | _, _, .nil, _ => .cons dv .nil
  | _, _, .cons (f := g) (r := r) (s := s) d ds, nd => by
    have nd' := nd
    simp only [List.map_cons, List.nodup_cons] at nd
    rw [vput_cons _ _ _ _ _ (by simpa using nd'), dput_cons _ _ _ _ _ (by rw [ds.keys]; simpa using nd')]
    by_cases e : g = f
    · rw [if_pos e, if_pos e]
      subst e
      exact .cons dv (ds.keep K hf fun z hz => h z fun q => nd.1 (by rw [← q]; exact hz))
    · rw [if_neg e, if_neg e]
      exact .cons (d.keep K hf (h g e)) (GD.eput K hf h dv ds nd.2)
theorem dput_same {f : Ky} {v : Val} : ∀ {s : List (Ky × Val)}, (s.map (·.1)).Nodup → dget s f = some v → dput s f v = s
  | [], _, e => by cases e
  | (g, x) :: s, nd, e => by
    rw [dget_cons] at e
    rw [dput_cons _ _ _ _ _ (by simpa using nd)]
    simp only [List.map_cons, List.nodup_cons] at nd
    by_cases h : g = f
    · rw [if_pos h] at e ⊢
      cases e
      rfl
    · rw [if_neg h] at e ⊢
      rw [dput_same nd.2 e]
/-! objects changed -/
theorem HOK.upd {P : Tag → Prop} {M M' : MS} {w : W} (hp : HOK M w) (K : Keep P M M') (hf : P .fz) (hd : P .drw) (hdr : ∃ r, M'.h = w.d.1.hs ++ r) (hm : M'.mu = M.mu) {k n : Nat} {H' : VH} {o' : VOb} (hk : M.mu[k]? = some n) (hH : H'.ob = w.H.ob.set k o') (hob : ∀ m, m < M.h.length → M.ow m = .obj → M'.ow m = .obj ∧ (m ≠ n → M'.h[m]? = M.h[m]?))
    (hp' : ∀ q : Pl, ∀ j, q.obj = some j → j ≠ k → P (.pl 0 q)) (d : k < w.H.ob.length → ObD M' k n o') : HOK M' ⟨w.d, H'⟩ := by
  refine ⟨hdr, fun i hi => ?_, by rw [hm, hH, List.length_set]; exact hp.ml, by rw [hm]; exact hp.mi, fun j o e => ?_⟩
  · have l3 : 3 ≤ M.h.length := by
      obtain ⟨x, e⟩ := hp.dr
      rw [e, List.length_append]
      have : w.d.1.hs.length = 3 := rfl
      omega
    rw [(K.at_ i (by omega) (by rw [hp.o2 i hi]; exact hd)).1]; exact hp.o2 i hi
  · have e' : (w.H.ob.set k o')[j]? = some o := by rw [← hH]; exact e
    by_cases c : k = j
    · subst c
      have hl : k < w.H.ob.length := by
        have := (List.getElem?_eq_some_iff.mp e').1
        rw [List.length_set] at this
        exact this
      rw [List.getElem?_set_self hl] at e'
      cases e'
      obtain ⟨m, h1, h2, h3⟩ := hp.ob k _ (List.getElem?_eq_getElem hl)
      rw [hk] at h1
      cases h1
      exact ⟨n, by rw [hm]; exact hk, (hob n (obd_lt h3) h2).1, d hl⟩
    · rw [List.getElem?_set_ne c] at e'
      obtain ⟨m, h1, h2, h3⟩ := hp.ob j o e'
      have hmn : m ≠ n := fun q => c (hp.mi k j n hk (by rw [← q]; exact h1))
      obtain ⟨a1, a2⟩ := hob m (obd_lt h3) h2
      exact ⟨m, by rw [hm]; exact h1, a1, h3.keep K hf (a2 hmn) fun q hq => hp' q j hq (Ne.symm c)⟩
/-! a list at a place, changed or standing still from now on -/
def tgO (b : Nat) (q : Pl) : Ow → Tag
  | .ow => tgP b q
  | .sh => .fz
theorem std_tg {b : Nat} {q : Pl} {t : Tag} (h : Std b t) : t ≠ tgP b q := by
  rintro rfl
  rcases h with h | h | h | ⟨e, i, h, he⟩
  · cases q <;> cases h
  · cases q <;> cases h
  · cases q <;> cases h
  · cases q <;> cases h
    omega
theorem DO.place {M : MS} {b : Nat} {q : Pl} {ps : List PV} {u : Val} (d : DO M (tgP b q) (.lst .ow ps) u) : ∃ n vs, u = .ref n ∧ M.ow n = tgP b q ∧ M.h[n]? = some (.lst vs) ∧ DFs M ps vs := by
  cases d with
  | f d => cases d
  | l h1 h2 d => exact ⟨_, _, rfl, h1, h2, d⟩
theorem place_do {M : MS} {b n : Nat} {q : Pl} {o' : Ow} {ps' : List PV} {vs' : List Val} (hn : n < M.h.length) (dv : DFs (M.put n (.lst vs') (tgO b q o')) ps' vs') : DO (M.put n (.lst vs') (tgO b q o')) (tgP b q) (.lst o' ps') (.ref n) := by
  cases o' with
  | ow => exact .l put_ow (put_at hn) dv
  | sh => exact .f (.lst put_ow (put_at hn) dv)
theorem Sim.place {b : Nat} {s s' : VSl} {w w' : W} {st : Sl} {M : MS} (sim : Sim b s w st M) {q : Pl} {t : Nat} {u : Val} {ps ps' : List PV} {o' : Ow} {d : Nat} (rr : RR M st w (.p q t) u) (hk : okT q t w = true) (e : getP q s w = some (.lst .ow ps)) (e' : setP q (.lst o' ps') d s w = some (s', w')) :
    ∃ n vs, u = .ref n ∧ M.ow n = tgP b q ∧ M.h[n]? = some (.lst vs) ∧ DFs M ps vs ∧ ∀ vs', DFs M ps' vs' → (d = 0 → vs' = vs ∧ o' = .sh) → (0 < d → o' = .ow) →
      Sim b s' w' st (M.put n (.lst vs') (tgO b q o')) ∧ Le b M (M.put n (.lst vs') (tgO b q o')) ∧ Tk w M w' (M.put n (.lst vs') (tgO b q o')) ∧ DFs (M.put n (.lst vs') (tgO b q o')) ps' vs' ∧ DF M (.lst .sh ps') (.ref n) = DF M (.lst .sh ps') (.ref n) := by
  obtain ⟨n, vs, rfl, h1, h2, dv⟩ := (sim.at_ rr hk e).place
  have hn := lt_of h2
  refine ⟨n, vs, rfl, h1, h2, dv, fun vs' dv' hd hd1 => ?_⟩
  have K : Keep (fun t => t ≠ tgP b q) M (M.put n (.lst vs') (tgO b q o')) := put_keep (by rw [h1]; simp)
  have n3 : 3 ≤ n := by
    cases q <;> exact sim.hp.pl3 h1
  have le : Le b M (M.put n (.lst vs') (tgO b q o')) := K.le fun t => std_tg
  have ne_tg : ∀ t : Tag, (∀ b q, t ≠ .pl b q) → t ≠ tgP b q := fun t h => by cases q <;> exact h _ _
  have dvs' : DFs (M.put n (.lst vs') (tgO b q o')) ps' vs' := DFs.keep K (ne_tg _ fun _ _ => by simp) _ _ dv'
  have dob := place_do (b := b) (q := q) (o' := o') hn dvs'
  have dr := dr_put (o := .lst vs') (t := tgO b q o') sim.hp.dr n3
  have obs : ∀ m, m < M.h.length → M.ow m = .obj → (M.put n (.lst vs') (tgO b q o')).h[m]? = M.h[m]? ∧ (M.put n (.lst vs') (tgO b q o')).ow m = .obj := fun m hm ho => by
    obtain ⟨a1, a2⟩ := K.at_ m hm (by rw [ho]; exact ne_tg _ fun _ _ => by simp)
    exact ⟨a2, a1.trans ho⟩
  have lst : w'.H.u = w.H.u → (d = 0 ∨ q.obj = none) → ∀ (m : Nat) (q' : Pl), m < M.h.length → q'.obj ≠ none → M.ow m = .pl 0 q' → (M.put n (.lst vs') (tgO b q o')).h[m]? = M.h[m]? ∧ ((M.put n (.lst vs') (tgO b q o')).ow m = .pl 0 q' ∨ (M.put n (.lst vs') (tgO b q o')).ow m = .fz) := fun hu hd0 m q' hm hq' ho => by
    by_cases c : m = n
    · subst c
      rcases hd0 with hd0 | hd0
      · obtain ⟨rfl, rfl⟩ := hd hd0
        exact ⟨by rw [put_at hn, h2], .inr put_ow⟩
      · exfalso
        rw [h1] at ho
        cases q with
        | sl i =>
          have : Tag.pl b (.sl i) = Tag.pl 0 q' := ho
          cases this
          exact hq' rfl
        | fl _ _ => cases hd0
        | en _ _ => cases hd0
    · refine ⟨?_, .inl ?_⟩
      · show (M.h.set n _)[m]? = _
        rw [List.getElem?_set_ne (Ne.symm c)]
      · show (if m = n then _ else M.ow m) = _
        rw [if_neg c]; exact ho
  cases q with
  | sl i =>
    simp only [setP, Option.some.injEq, Prod.mk.injEq] at e'
    obtain ⟨rfl, rfl⟩ := e'
    refine ⟨⟨sim.hp.keep K (by simp [tgP]) (by simp [tgP]) (by simp [tgP]) (fun q hq => by
      intro z
      have : Tag.pl 0 q = Tag.pl b (.sl i) := z
      cases this
      exact hq rfl) dr rfl, by rw [List.length_set]; exact sim.len, fun j p hj => ?_⟩, le, ⟨Nat.le_refl _, fun _ m hm ho => (obs m hm ho).1, Nat.le_refl _, fun hu => lst hu (.inr rfl)⟩, dvs', rfl⟩
    by_cases c : i = j
    · subst c
      have hl : i < s.length := by
        have := (List.getElem?_eq_some_iff.mp hj).1
        rw [List.length_set] at this
        exact this
      rw [List.getElem?_set_self hl] at hj
      cases hj
      exact ⟨_, rr, dob⟩
    · rw [List.getElem?_set_ne c] at hj
      obtain ⟨v, a1, a2⟩ := sim.sl j p hj
      exact ⟨v, a1, a2.keep K (by simp [tgP]) (by
        intro z
        have : Tag.pl b (.sl j) = Tag.pl b (.sl i) := z
        cases this
        exact c rfl)⟩
  | fl k f =>
    simp only [okT, beq_iff_eq] at hk
    obtain ⟨_, r2⟩ := rr
    obtain ⟨m, c, gs, a1, a2, a3⟩ := r2 hk
    simp only [setP, setF', getP, obF] at e e'
    split at e
    · rename_i c' fs hv
      rw [hv] at e'
      simp only [Option.map_some, Option.some.injEq, Prod.mk.injEq] at e'
      obtain ⟨rfl, rfl⟩ := e'
      obtain ⟨m', gs', b1, b2, b3, b4, b5⟩ := sim.hp.ins hv
      rw [a1] at b1
      cases b1
      rw [a2] at b3
      cases b3
      have pne : ∀ g, g ≠ f → Tag.pl 0 (.fl k g) ≠ tgP b (.fl k f) := fun g hg z => by
        have : Tag.pl 0 (.fl k g) = Tag.pl 0 (.fl k f) := z
        cases this
        exact hg rfl
      refine ⟨⟨sim.hp.upd K (by simp [tgP]) (by simp [tgP]) dr rfl a1 rfl (fun x hx ho => ⟨(obs x hx ho).2, fun _ => (obs x hx ho).1⟩) (fun q j hq hj z => ?_) (fun _ => ?_), sim.len, fun j p hj => ?_⟩, le,
        ⟨Nat.le_refl _, fun _ x hx ho => (obs x hx ho).1, by show w.H.u ≤ w.H.u + d; omega, fun hu => lst hu (.inl (by have : w.H.u + d = w.H.u := hu; omega))⟩, dvs', rfl⟩
      · have : Tag.pl 0 q = Tag.pl 0 (.fl k f) := z
        cases this
        cases hq
        exact hj rfl
      · refine ⟨gs, by rw [(obs m (lt_of a2) b2).1]; exact a2, ?_, (vfput_keys f _ fs b5).1⟩
        have := GD.fput K (by simp [tgP]) pne dob b4 b5
        rw [fput_same a3] at this
        exact this
      · obtain ⟨v, c1, c2⟩ := sim.sl j p hj
        exact ⟨v, c1, c2.keep K (by simp [tgP]) (by intro z; cases z)⟩
    · cases e
  | en k f =>
    simp only [okT, beq_iff_eq] at hk
    obtain ⟨_, r2⟩ := rr
    obtain ⟨m, gs, a1, a2, a3⟩ := r2 hk
    simp only [setP, setE', getP, obE] at e e'
    split at e
    · rename_i fs hv
      rw [hv] at e'
      simp only [Option.map_some, Option.some.injEq, Prod.mk.injEq] at e'
      obtain ⟨rfl, rfl⟩ := e'
      obtain ⟨m', gs', b1, b2, b3, b4, b5⟩ := sim.hp.dct hv
      rw [a1] at b1
      cases b1
      rw [a2] at b3
      cases b3
      have pne : ∀ g, g ≠ f → Tag.pl 0 (.en k g) ≠ tgP b (.en k f) := fun g hg z => by
        have : Tag.pl 0 (.en k g) = Tag.pl 0 (.en k f) := z
        cases this
        exact hg rfl
      refine ⟨⟨sim.hp.upd K (by simp [tgP]) (by simp [tgP]) dr rfl a1 rfl (fun x hx ho => ⟨(obs x hx ho).2, fun _ => (obs x hx ho).1⟩) (fun q j hq hj z => ?_) (fun _ => ?_), sim.len, fun j p hj => ?_⟩, le,
        ⟨Nat.le_refl _, fun _ x hx ho => (obs x hx ho).1, by show w.H.u ≤ w.H.u + d; omega, fun hu => lst hu (.inl (by have : w.H.u + d = w.H.u := hu; omega))⟩, dvs', rfl⟩
      · have : Tag.pl 0 q = Tag.pl 0 (.en k f) := z
        cases this
        cases hq
        exact hj rfl
      · refine ⟨gs, by rw [(obs m (lt_of a2) b2).1]; exact a2, ?_, (vput_keys f _ fs b5).1⟩
        have := GD.eput K (by simp [tgP]) pne dob b4 b5
        rw [dput_same (by rw [b4.keys]; exact b5) a3] at this
        exact this
      · obtain ⟨v, c1, c2⟩ := sim.sl j p hj
        exact ⟨v, c1, c2.keep K (by simp [tgP]) (by intro z; cases z)⟩
    · cases e
end MP

set_option Elab.async false
set_option linter.all false
set_option maxRecDepth 100000
set_option maxHeartbeats 4000000
set_option autoImplicit false
/-! VEe: the operations by values say what those of MP say. -/
namespace MP
open PySem PySem.Spec L2
section
variable {M : MS} {u : Val}
theorem DL.i {i : Int} (d : DL M (.int i) u) : u = .int i := by
  cases d with
  | f d => cases d; rfl
theorem DL.s {s : List Nat} (d : DL M (.str s) u) : u = .str s := by
  cases d with
  | f d => cases d; rfl
theorem DL.b {k : Bool} (d : DL M (.bl k) u) : u = .bl k := by
  cases d with
  | f d => cases d; rfl
theorem DL.n (d : DL M .non u) : u = .non := by
  cases d with
  | f d => cases d; rfl
theorem DL.dr (d : DL M .drw u) : u = .ref 2 := by
  cases d with
  | f d => cases d; rfl
theorem DL.r {k : Nat} (d : DL M (.ref k) u) : ∃ n, u = .ref n ∧ M.mu[k]? = some n := by
  cases d with
  | f d => cases d with
    | ref h => exact ⟨_, rfl, h⟩
theorem DL.t {ps : List PV} (d : DL M (.tup ps) u) : ∃ vs, u = .tup vs ∧ DFs M ps vs := by
  cases d with
  | f d => cases d with
    | tup h => exact ⟨_, rfl, h⟩
theorem DL.ls {o : Ow} {ps : List PV} (d : DL M (.lst o ps) u) : ∃ n vs, u = .ref n ∧ M.h[n]? = some (.lst vs) ∧ DFs M ps vs := by
  cases d with
  | f d => cases d with
    | lst h1 h2 d => exact ⟨_, _, rfl, h2, d⟩
  | l h d => exact ⟨_, _, rfl, h, d⟩
end
/-! ### data -/
mutual
theorem dat_P {M : MS} : ∀ (p : PV) (u : Val) (n : Nat), DL M p u → okP p = true → pdep p < n → dat M.h n u = some (toDP p)
  | .non, u, n + 1, d, _, _ => by rw [d.n]; simp only [dat, toDP]
  | .bl _, u, n + 1, d, _, _ => by rw [d.b]; simp only [dat, toDP]
  | .int _, u, n + 1, d, _, _ => by rw [d.i]; simp only [dat, toDP]
  | .str _, u, n + 1, d, _, _ => by rw [d.s]; simp only [dat, toDP]
  | .tup ps, u, n + 1, d, k, l => by
    obtain ⟨vs, rfl, dv⟩ := d.t
    rw [okP] at k
    rw [pdep] at l
    simp only [dat, toDP]
    rw [dat_Ps ps vs n dv k (by omega)]
    rfl
  | .lst o ps, u, n + 1, d, k, l => by
    obtain ⟨m, vs, rfl, hm, dv⟩ := d.ls
    rw [okP] at k
    rw [pdep] at l
    simp only [dat, toDP]
    rw [hm]
    show (oall (dat M.h n) vs).map _ = _
    rw [dat_Ps ps vs n dv k (by omega)]
    rfl
  | .ref _, _, _, _, k, _ => by rw [okP] at k; cases k
  | .drw, _, _, _, k, _ => by rw [okP] at k; cases k
  | p, _, 0, _, _, l => absurd l (Nat.not_lt_zero _)
theorem dat_Ps {M : MS} : ∀ (ps : List PV) (vs : List Val) (n : Nat), DFs M ps vs → okPs ps = true → pdeps ps < n → oall (dat M.h n) vs = some (toDPs ps)
  | [], _, n, d, _, _ => by cases d; simp only [oall, toDPs]
  | p :: ps, _, n, d, k, l => by
    cases d with
    | cons d1 d2 =>
      rw [okPs, Bool.and_eq_true] at k
      rw [pdeps] at l
      simp only [oall, toDPs]
      rw [dat_P p _ n (.f d1) k.1 (by omega), dat_Ps ps _ n d2 k.2 (by omega)]
end
mutual
theorem lay_P : ∀ p : PV, okP p = true → (toDP p).canLay0 = true ∧ (toDP p).depth ≤ pdep p
  | .non, _ => by simp [toDP, PyData.canLay0, PyData.depth]
  | .bl _, _ => by simp [toDP, PyData.canLay0, PyData.depth]
  | .int _, _ => by simp [toDP, PyData.canLay0, PyData.depth]
  | .str s, k => by
    rw [okP] at k
    refine ⟨?_, by simp [toDP, PyData.depth]⟩
    rw [toDP, PyData.canLay0]
    simpa [PyData.strOk] using k
  | .tup vs, k => by
    rw [okP] at k
    obtain ⟨h1, h2⟩ := lay_Ps vs k
    simp [toDP, PyData.canLay0, PyData.depth, pdep, h1, h2]
  | .lst _ vs, k => by
    rw [okP] at k
    obtain ⟨h1, h2⟩ := lay_Ps vs k
    simp [toDP, PyData.canLay0, PyData.depth, pdep, h1, h2]
  | .ref _, k => by rw [okP] at k; cases k
  | .drw, k => by rw [okP] at k; cases k
theorem lay_Ps : ∀ ps : List PV, okPs ps = true → PyData.canLayAll0 (toDPs ps) = true ∧ PyData.depthAll (toDPs ps) ≤ pdeps ps
  | [], _ => by simp [toDPs, PyData.canLayAll0, PyData.depthAll]
  | p :: ps, k => by
    rw [okPs, Bool.and_eq_true] at k
    obtain ⟨h1, h2⟩ := lay_P p k.1
    obtain ⟨g1, g2⟩ := lay_Ps ps k.2
    simp only [toDPs, PyData.canLayAll0, PyData.depthAll, pdeps, h1, g1, Bool.and_self, true_and]
    omega
end
theorem shaped_P {p : PV} (k : okP p = true) (d : pdep p ≤ 10) : SeqAt.shaped (toDP p) = true := by
  obtain ⟨h1, h2⟩ := lay_P p k
  unfold SeqAt.shaped
  rw [h1, Bool.true_and, decide_eq_true_eq]
  omega
theorem shaped_Ps {ps : List PV} (k : okPs ps = true) (d : pdeps ps ≤ 10) : SeqAt.shaped (.list (toDPs ps)) = true := by
  obtain ⟨h1, h2⟩ := lay_Ps ps k
  unfold SeqAt.shaped
  rw [PyData.canLay0, h1, PyData.depth, Bool.true_and, decide_eq_true_eq]
  omega
theorem dec_and_cons {a b : PV} {r s : List PV} : (decide (a = b) && decide (r = s)) = decide (a :: r = b :: s) := by
  by_cases h : a = b <;> by_cases h' : r = s <;> simp [h, h']
mutual
theorem eqv_P : ∀ p q : PV, okP p = true → okP q = true → cmpt p q = true → PyData.eqv (toDP p) (toDP q) = decide (p.flt = q.flt)
  | .non, q, _, kq, c => by cases q <;> simp_all [toDP, PyData.eqv, PV.flt, okP, cmpt]
  | .bl _, q, _, kq, c => by cases q <;> simp_all [toDP, PyData.eqv, PV.flt, okP, cmpt] <;> (rename_i a b; cases a <;> cases b <;> rfl)
  | .int i, q, _, kq, c => by
    cases q with
    | int j =>
      simp only [toDP, PyData.eqv, PV.flt]
      by_cases e : i = j <;> simp [e]
    | _ => simp_all [toDP, PyData.eqv, PV.flt, okP, cmpt]
  | .str s, q, _, kq, c => by
    cases q with
    | str t =>
      simp only [toDP, PyData.eqv, PV.flt]
      by_cases e : s = t
      · subst e; simp
      · have : ¬ (⟨s.toArray⟩ : Str) = ⟨t.toArray⟩ := fun z => e (by injection z with z; simpa using z)
        simp [e, this]
    | _ => simp_all [toDP, PyData.eqv, PV.flt, okP, cmpt]
  | .tup ps, q, k, kq, c => by
    cases q with
    | tup qs =>
      rw [okP] at k kq
      rw [cmpt] at c
      simp only [toDP, PyData.eqv, PV.flt]
      rw [eqv_Ps ps qs k kq c]
      by_cases e : PV.flts ps = PV.flts qs <;> simp [e]
    | _ => simp_all [toDP, PyData.eqv, PV.flt, okP, cmpt]
  | .lst _ ps, q, k, kq, c => by
    cases q with
    | lst _ qs =>
      rw [okP] at k kq
      rw [cmpt] at c
      simp only [toDP, PyData.eqv, PV.flt]
      rw [eqv_Ps ps qs k kq c]
      by_cases e : PV.flts ps = PV.flts qs <;> simp [e]
    | _ => simp_all [toDP, PyData.eqv, PV.flt, okP, cmpt]
  | .ref _, _, k, _, _ => by rw [okP] at k; cases k
  | .drw, _, k, _, _ => by rw [okP] at k; cases k
theorem eqv_Ps : ∀ ps qs : List PV, okPs ps = true → okPs qs = true → cmpts ps qs = true → PyData.eqvAll (toDPs ps) (toDPs qs) = decide (PV.flts ps = PV.flts qs)
  | [], [], _, _, _ => by simp [toDPs, PyData.eqvAll, PV.flts]
  | [], _ :: _, _, _, _ => by simp [toDPs, PyData.eqvAll, PV.flts]
  | _ :: _, [], _, _, _ => by simp [toDPs, PyData.eqvAll, PV.flts]
  | p :: ps, q :: qs, k, kq, c => by
    rw [okPs, Bool.and_eq_true] at k kq
    rw [cmpts, Bool.and_eq_true] at c
    simp only [toDPs, PyData.eqvAll, PV.flts]
    rw [eqv_P p q k.1 kq.1 c.1, eqv_Ps ps qs k.2 kq.2 c.2, dec_and_cons]
    exact decide_eq_decide.mpr Iff.rfl
end
theorem deqV_ok {M : MS} {x y : PV} {u v : Val} {k : Bool} (dx : DL M x u) (dy : DL M y v) (e : deqV x y = some k) : deq M.h u v = some k := by
  unfold deqV at e
  split at e
  · rename_i h
    obtain ⟨h1, h2, h3⟩ := h
    simp only [niceP, Bool.and_eq_true, decide_eq_true_eq] at h1 h2
    cases e
    unfold deq
    rw [dat_P x u 12 dx h1.1 (by omega), dat_P y v 12 dy h2.1 (by omega)]
    simp only [shaped_P h1.1 (by omega), shaped_P h2.1 (by omega), and_self, if_true]
    rw [eqv_P x y h1.1 h2.1 h3]
  · cases e
theorem eqV_ok {M : MS} {x y : PV} {u v : Val} {k : Bool} (dx : DL M x u) (dy : DL M y v) (e : eqV x y = some k) : eqF M.h u v = some k := by
  have gen : deqV x y = some k → (∀ a b : Val, u = a → v = b → eqF M.h a b = deq M.h a b) → eqF M.h u v = some k := fun e h => by rw [h u v rfl rfl]; exact deqV_ok dx dy e
  cases x with
  | non =>
    obtain rfl := dx.n
    cases y with
    | non => obtain rfl := dy.n; exact e
    | int _ => obtain rfl := dy.i; exact e
    | bl _ => obtain rfl := dy.b; exact e
    | str _ => obtain rfl := dy.s; exact e
    | tup _ => obtain ⟨_, rfl, _⟩ := dy.t; exact deqV_ok dx dy e
    | lst _ _ => obtain ⟨_, _, rfl, _⟩ := dy.ls; exact deqV_ok dx dy e
    | ref _ => obtain ⟨_, rfl, _⟩ := dy.r; exact deqV_ok dx dy e
    | drw => obtain rfl := dy.dr; exact deqV_ok dx dy e
  | bl _ =>
    obtain rfl := dx.b
    cases y with
    | non => obtain rfl := dy.n; exact e
    | int _ => obtain rfl := dy.i; exact deqV_ok dx dy e
    | bl _ => obtain rfl := dy.b; exact e
    | str _ => obtain rfl := dy.s; exact e
    | tup _ => obtain ⟨_, rfl, _⟩ := dy.t; exact deqV_ok dx dy e
    | lst _ _ => obtain ⟨_, _, rfl, _⟩ := dy.ls; exact deqV_ok dx dy e
    | ref _ => obtain ⟨_, rfl, _⟩ := dy.r; exact deqV_ok dx dy e
    | drw => obtain rfl := dy.dr; exact deqV_ok dx dy e
  | int _ =>
    obtain rfl := dx.i
    cases y with
    | non => obtain rfl := dy.n; exact e
    | int _ => obtain rfl := dy.i; exact e
    | bl _ => obtain rfl := dy.b; exact deqV_ok dx dy e
    | str _ => obtain rfl := dy.s; exact e
    | tup _ => obtain ⟨_, rfl, _⟩ := dy.t; exact deqV_ok dx dy e
    | lst _ _ => obtain ⟨_, _, rfl, _⟩ := dy.ls; exact deqV_ok dx dy e
    | ref _ => obtain ⟨_, rfl, _⟩ := dy.r; exact deqV_ok dx dy e
    | drw => obtain rfl := dy.dr; exact deqV_ok dx dy e
  | str _ =>
    obtain rfl := dx.s
    cases y with
    | non => obtain rfl := dy.n; exact e
    | int _ => obtain rfl := dy.i; exact e
    | bl _ => obtain rfl := dy.b; exact e
    | str _ => obtain rfl := dy.s; exact e
    | tup _ => obtain ⟨_, rfl, _⟩ := dy.t; exact deqV_ok dx dy e
    | lst _ _ => obtain ⟨_, _, rfl, _⟩ := dy.ls; exact deqV_ok dx dy e
    | ref _ => obtain ⟨_, rfl, _⟩ := dy.r; exact deqV_ok dx dy e
    | drw => obtain rfl := dy.dr; exact deqV_ok dx dy e
  | tup ps =>
    obtain ⟨_, rfl, _⟩ := dx.t
    have e' : deqV (.tup ps) y = some k := by cases y <;> exact e
    exact deqV_ok dx dy e'
  | lst o ps =>
    obtain ⟨_, _, rfl, _⟩ := dx.ls
    have e' : deqV (.lst o ps) y = some k := by cases y <;> exact e
    exact deqV_ok dx dy e'
  | ref j =>
    obtain ⟨_, rfl, _⟩ := dx.r
    have e' : deqV (.ref j) y = some k := by cases y <;> exact e
    exact deqV_ok dx dy e'
  | drw =>
    obtain rfl := dx.dr
    have e' : deqV .drw y = some k := by cases y <;> exact e
    exact deqV_ok dx dy e'
theorem flat_P {M : MS} {x : PV} {u : Val} (d : DL M x u) (h : flatP' x = true) : flat u = true := by
  cases x with
  | non => obtain rfl := d.n; rfl
  | bl _ => obtain rfl := d.b; rfl
  | int _ => obtain rfl := d.i; rfl
  | str _ => obtain rfl := d.s; rfl
  | _ => cases h
theorem flats_P {M : MS} : ∀ {xs : List PV} {us : List Val}, DFs M xs us → xs.all flatP' = true → us.all flat = true
  | [], _, d, _ => by cases d; rfl
  | x :: xs, _, d, h => by
    cases d with
    | cons d1 d2 =>
      rw [List.all_cons, Bool.and_eq_true] at h ⊢
      exact ⟨flat_P (.f d1) h.1, flats_P d2 h.2⟩
theorem eqW_P {M : MS} {x y : PV} {u v : Val} (d : DL M x u) (d' : DL M y v) (h : flatP' x = true) (h' : flatP' y = true) : eqW u v = eqWV x y := by
  cases x with
  | non => obtain rfl := d.n; cases y with
    | non => obtain rfl := d'.n; rfl
    | bl _ => obtain rfl := d'.b; rfl
    | int _ => obtain rfl := d'.i; rfl
    | str _ => obtain rfl := d'.s; rfl
    | _ => cases h'
  | bl _ => obtain rfl := d.b; cases y with
    | non => obtain rfl := d'.n; rfl
    | bl _ => obtain rfl := d'.b; rfl
    | int _ => obtain rfl := d'.i; rfl
    | str _ => obtain rfl := d'.s; rfl
    | _ => cases h'
  | int _ => obtain rfl := d.i; cases y with
    | non => obtain rfl := d'.n; rfl
    | bl _ => obtain rfl := d'.b; rfl
    | int _ => obtain rfl := d'.i; rfl
    | str _ => obtain rfl := d'.s; rfl
    | _ => cases h'
  | str _ => obtain rfl := d.s; cases y with
    | non => obtain rfl := d'.n; rfl
    | bl _ => obtain rfl := d'.b; rfl
    | int _ => obtain rfl := d'.i; rfl
    | str _ => obtain rfl := d'.s; rfl
    | _ => cases h'
  | _ => cases h
theorem any_P {M : MS} {x : PV} {u : Val} (d : DL M x u) (h : flatP' x = true) : ∀ {ys : List PV} {vs : List Val}, DFs M ys vs → ys.all flatP' = true → (vs.any fun z => eqW z u) = ys.any fun z => eqWV z x
  | [], _, ds, _ => by cases ds; rfl
  | y :: ys, _, ds, h' => by
    cases ds with
    | cons d1 d2 =>
      rw [List.all_cons, Bool.and_eq_true] at h'
      rw [List.any_cons, List.any_cons, any_P d h d2 h'.2, eqW_P (.f d1) d h'.1 h]
theorem anyD_P {x : PV} (k : okP x = true) : ∀ {ys : List PV}, okPs ys = true → (ys.all fun z => cmpt z x) = true → ((toDPs ys).any fun z => PyData.eqv z (toDP x)) = ys.any fun z => decide (z.flt = x.flt)
  | [], _, _ => by simp [toDPs]
  | y :: ys, h, c => by
    rw [okPs, Bool.and_eq_true] at h
    rw [List.all_cons, Bool.and_eq_true] at c
    rw [toDPs, List.any_cons, List.any_cons, anyD_P k h.2 c.2, eqv_P y x h.1 k c.1]
theorem inDeep_ok {M : MS} {x : PV} {u v : Val} {ys : List PV} {vs : List Val} (d : DL M x u) (ds : DFs M ys vs) (hv : v = .tup vs ∨ ∃ n, v = .ref n) (k : okP x = true) (l : pdep x ≤ 10) (k2 : okPs ys = true) (l2 : pdeps ys ≤ 9) (c : (ys.all fun z => cmpt z x) = true) :
    inDeep M.h u vs v = some (ys.any fun z => decide (z.flt = x.flt)) := by
  have key : (match dat M.h 12 u, oall (dat M.h 11) vs with
    | some d, some ds => if SeqAt.shaped d = true ∧ SeqAt.shaped (.list ds) = true then some (ds.any fun z => PyData.eqv z d) else none
    | _, _ => none) = some (ys.any fun z => decide (z.flt = x.flt)) := by
    rw [dat_P x u 12 d k (by omega), dat_Ps ys vs 11 ds k2 (by omega)]
    simp only [shaped_P k (by omega), shaped_Ps k2 (by omega), and_self, if_true]
    rw [anyD_P k k2 c]
  rcases hv with rfl | ⟨n, rfl⟩ <;> exact key
theorem inSV_ok {M : MS} {x : PV} {u v : Val} {ys : List PV} {vs : List Val} {k : Bool} (d : DL M x u) (ds : DFs M ys vs) (hv : v = .tup vs ∨ ∃ n, v = .ref n) (e : inSV x ys = some k) : inSq M.h u v vs = some k := by
  unfold inSV at e
  split at e
  · rename_i h
    cases e
    simp only [inSq, flat_P d h.1, flats_P ds h.2, and_self, if_true]
    rw [any_P d h.1 ds h.2]
  · split at e
    · rename_i h0 h
      obtain ⟨h1, h2, h3, h4⟩ := h
      simp only [niceP, Bool.and_eq_true, decide_eq_true_eq] at h1
      cases e
      have D := inDeep_ok d ds hv h1.1 h1.2 h2 h3 h4
      unfold inSq
      split
      · rename_i fl
        -- flat on both sides although the values are not: cannot be
        exfalso
        apply h0
        have f1 : flatP' x = true := by
          cases x with
          | tup _ => obtain ⟨_, rfl, _⟩ := d.t; exact fl.1
          | lst _ _ => obtain ⟨_, _, rfl, _⟩ := d.ls; exact fl.1
          | ref _ => obtain ⟨_, rfl, _⟩ := d.r; exact fl.1
          | drw => obtain rfl := d.dr; exact fl.1
          | _ => rfl
        refine ⟨f1, ?_⟩
        have : ∀ {ys : List PV} {vs : List Val}, DFs M ys vs → vs.all flat = true → ys.all flatP' = true := by
          intro ys
          induction ys with
          | nil => intro _ _ _; rfl
          | cons y ys ih =>
            intro vs ds h
            cases ds with
            | cons d1 d2 =>
              rw [List.all_cons, Bool.and_eq_true] at h ⊢
              refine ⟨?_, ih d2 h.2⟩
              cases d1 <;> first | rfl | exact h.1
        exact this ds fl.2
      · exact D
    · cases e
theorem inV_ok {M : MS} {w : W} (hp : HOK M w) {x y : PV} {u v : Val} {k : Bool} (dx : DL M x u) (dy : DL M y v) (e : inV x y w.H = some k) : inF M.h u v = some k := by
  cases y with
  | str s =>
    obtain rfl := dy.s
    simp only [inV] at e
    split at e
    · obtain rfl := dx.s
      exact e
    · cases e
  | ref j =>
    obtain ⟨n, rfl, hn⟩ := dy.r
    simp only [inV] at e
    split at e
    · rename_i kvs hv
      obtain ⟨n', gs, a1, a2, a3, a4, a5⟩ := hp.dct hv
      rw [hn] at a1
      cases a1
      have ky : ∀ key, toKyV x = some key → toKy u = some key := fun key h => by
        cases x with
        | int _ => obtain rfl := dx.i; exact h
        | str _ => obtain rfl := dx.s; exact h
        | _ => cases h
      cases q : toKyV x with
      | none => rw [q] at e; cases e
      | some key =>
        rw [q] at e
        have e' : (vget kvs key).isSome = k := by simpa using e
        simp only [inF, inGen, dctOf, a3]
        rw [ky key q]
        show some (dget gs key).isSome = some k
        rw [← e']
        cases q2 : vget kvs key with
        | none =>
          rw [vget_n a4 q2]
          rfl
        | some p =>
          obtain ⟨v', b1, _⟩ := vget_g a4 q2
          rw [b1]
          rfl
    · cases e
  | tup ys =>
    obtain ⟨vs, rfl, ds⟩ := dy.t
    have e' : inSV x ys = some k := e
    simp only [inF, inGen, dctOf, seqOf]
    exact inSV_ok dx ds (.inl rfl) e'
  | lst o ys =>
    obtain ⟨n, vs, rfl, hn, ds⟩ := dy.ls
    have e' : inSV x ys = some k := e
    simp only [inF, inGen, dctOf, seqOf, hn]
    exact inSV_ok dx ds (.inr ⟨n, rfl⟩) e'
  | _ => cases e
theorem obl_ok {o : Option Bool} {z : PV} (e : obl o = some z) : ∃ k, o = some k ∧ z = .bl k := by
  cases o with
  | none => cases e
  | some k => cases e; exact ⟨k, rfl, rfl⟩
theorem oblN_ok {o : Option Bool} {z : PV} (e : oblN o = some z) : ∃ k, o = some k ∧ z = .bl (!k) := by
  cases o with
  | none => cases e
  | some k => cases e; exact ⟨k, rfl, rfl⟩
theorem ltTs_P {M : MS} {vs ws : List PV} {us ts : List Val} {z : PV} (d : DFs M vs us) (d' : DFs M ws ts) (e : ltTV vs ws = some z) : ∃ k, z = .bl k ∧ ltTs us ts = some k := by
  have key : ∀ {ps : List PV} {vs : List Val} {ns : List Int}, DFs M ps vs → isIntsV ps = some ns → isInts vs = some ns := by
    intro ps
    induction ps with
    | nil =>
      intro vs ns d e
      cases d
      simpa [isIntsV, isInts] using e
    | cons p ps ih =>
      intro vs ns d e
      cases d with
      | cons d1 d2 =>
        cases p with
        | int i =>
          simp only [isIntsV, Option.map_eq_some_iff] at e
          obtain ⟨ms, e1, rfl⟩ := e
          cases d1
          simp only [isInts, ih d2 e1, Option.map_some]
        | _ => simp [isIntsV] at e
  unfold ltTV at e
  cases e1 : isIntsV vs with
  | none => rw [e1] at e; cases e
  | some a =>
    cases e2 : isIntsV ws with
    | none => rw [e1, e2] at e; cases e
    | some b =>
      rw [e1, e2] at e
      cases e
      exact ⟨_, rfl, by unfold ltTs; rw [key d e1, key d' e2]⟩
theorem ltVV_ok {M : MS} {x y z : PV} {u v : Val} (dx : DL M x u) (dy : DL M y v) (e : ltVV x y = some z) : ∃ k, z = .bl k ∧ cmpF .Lt u v M.h = .ok (.bl k) M.h ∧ cmpF .Gt v u M.h = .ok (.bl k) M.h := by
  cases x with
  | int _ => cases y with
    | int _ => obtain rfl := dx.i; obtain rfl := dy.i; cases e; exact ⟨_, rfl, rfl, rfl⟩
    | _ => cases e
  | str _ => cases y with
    | str _ => obtain rfl := dx.s; obtain rfl := dy.s; cases e; exact ⟨_, rfl, rfl, rfl⟩
    | _ => cases e
  | tup _ => cases y with
    | tup _ =>
      obtain ⟨us, rfl, d⟩ := dx.t
      obtain ⟨ts, rfl, d'⟩ := dy.t
      obtain ⟨k, rfl, h⟩ := ltTs_P d d' e
      exact ⟨k, rfl, by simp only [cmpF, h, ofO_some, R.bind_ok], by simp only [cmpF, h, ofO_some, R.bind_ok]⟩
    | _ => cases e
  | _ => cases e
theorem leVV_ok {M : MS} {x y z : PV} {u v : Val} (dx : DL M x u) (dy : DL M y v) (e : leVV x y = some z) : ∃ k, z = .bl k ∧ cmpF .LtE u v M.h = .ok (.bl k) M.h ∧ cmpF .GtE v u M.h = .ok (.bl k) M.h := by
  cases x with
  | int _ => cases y with
    | int _ => obtain rfl := dx.i; obtain rfl := dy.i; cases e; exact ⟨_, rfl, rfl, rfl⟩
    | _ => cases e
  | str _ => cases y with
    | str _ => obtain rfl := dx.s; obtain rfl := dy.s; cases e; exact ⟨_, rfl, rfl, rfl⟩
    | _ => cases e
  | _ => cases e
theorem isNon_ok {M : MS} {x : PV} {u : Val} (h : Hs) (d : DL M x u) : cmpF .Is u .non h = .ok (.bl (isNonV x)) h ∧ cmpF .IsNot u .non h = .ok (.bl (!isNonV x)) h := by
  cases x with
  | non => obtain rfl := d.n; exact ⟨rfl, rfl⟩
  | bl _ => obtain rfl := d.b; exact ⟨rfl, rfl⟩
  | int _ => obtain rfl := d.i; exact ⟨rfl, rfl⟩
  | str _ => obtain rfl := d.s; exact ⟨rfl, rfl⟩
  | tup _ => obtain ⟨_, rfl, _⟩ := d.t; exact ⟨rfl, rfl⟩
  | lst _ _ => obtain ⟨_, _, rfl, _⟩ := d.ls; exact ⟨rfl, rfl⟩
  | ref _ => obtain ⟨_, rfl, _⟩ := d.r; exact ⟨rfl, rfl⟩
  | drw => obtain rfl := d.dr; exact ⟨rfl, rfl⟩
theorem cmpV_ok {M : MS} {w : W} (hp : HOK M w) {op : CmpOp} {x y z : PV} {u v : Val} (dx : DL M x u) (dy : DL M y v) (e : cmpV op x y w.H = some z) : ∃ k, z = .bl k ∧ cmpF op u v M.h = .ok (.bl k) M.h := by
  cases op with
  | Eq =>
    obtain ⟨k, h, rfl⟩ := obl_ok e
    exact ⟨k, rfl, by simp only [cmpF]; rw [eqV_ok dx dy h]; rfl⟩
  | NotEq =>
    obtain ⟨k, h, rfl⟩ := oblN_ok e
    exact ⟨_, rfl, by simp only [cmpF]; rw [eqV_ok dx dy h]; rfl⟩
  | Lt => obtain ⟨k, rfl, h, _⟩ := ltVV_ok dx dy e; exact ⟨k, rfl, h⟩
  | Gt => obtain ⟨k, rfl, _, h⟩ := ltVV_ok dy dx e; exact ⟨k, rfl, h⟩
  | LtE => obtain ⟨k, rfl, h, _⟩ := leVV_ok dx dy e; exact ⟨k, rfl, h⟩
  | GtE => obtain ⟨k, rfl, _, h⟩ := leVV_ok dy dx e; exact ⟨k, rfl, h⟩
  | Is =>
    cases y with
    | non =>
      obtain rfl := dy.n
      cases e
      exact ⟨_, rfl, (isNon_ok M.h dx).1⟩
    | _ => cases e
  | IsNot =>
    cases y with
    | non =>
      obtain rfl := dy.n
      cases e
      exact ⟨_, rfl, (isNon_ok M.h dx).2⟩
    | _ => cases e
  | In =>
    obtain ⟨k, h, rfl⟩ := obl_ok e
    exact ⟨k, rfl, by simp only [cmpF]; rw [inV_ok hp dx dy h]; rfl⟩
  | NotIn =>
    obtain ⟨k, h, rfl⟩ := oblN_ok e
    exact ⟨_, rfl, by simp only [cmpF]; rw [inV_ok hp dx dy h]; rfl⟩
end MP

set_option Elab.async false
set_option linter.all false
set_option maxRecDepth 100000
set_option maxHeartbeats 4000000
set_option autoImplicit false
/-! VEf: operations, built-ins, methods. -/
namespace MP
open PySem PySem.Spec L2
def Res (M : MS) (z : PV) (r : R Val) : Prop := (∃ t, r = .ok t M.h ∧ DF M z t) ∨ (∃ zs ts, z = .lst .ow zs ∧ r = MP.new (.lst ts) M.h ∧ DFs M zs ts)
theorem Res.post {b : Nat} {s : VSl} {w : W} {st : Sl} {M : MS} {z : PV} {r : R Val} (sim : Sim b s w st M) (h : Res M z r) : ∃ t M', r = .ok t M'.h ∧ Le b M M' ∧ Tk w M w M' ∧ Sim b s w st M' ∧ DO M' .tmp z t ∧ Fr M z t := by
  rcases h with ⟨t, rfl, d⟩ | ⟨zs, ts, rfl, rfl, d⟩
  · exact ⟨t, M, rfl, Le.refl _ _, Tk.refl _ _, sim, .f d, Fr.df d⟩
  · exact ⟨.ref M.h.length, M.new (.lst ts) .tmp, rfl, new_le, new_tk, sim.new, new_tmp d, fr_new⟩
section
variable {M : MS}
theorem catV_ok {α : Type} {i j z : List α} (e : catV i j = some z) : i.length + j.length ≤ lim ∧ z = i ++ j := by
  unfold catV at e
  split at e
  · rename_i h; cases e; exact ⟨h, rfl⟩
  · cases e
theorem limO_ok {α : Type} {n : Nat} {x z : α} (e : limO n x = some z) : n ≤ lim ∧ z = x := by
  unfold limO at e
  split at e
  · rename_i h; cases e; exact ⟨h, rfl⟩
  · cases e
theorem addV_ok {x y z : PV} {u v : Val} (dx : DL M x u) (dy : DL M y v) (e : addV x y = some z) : Res M z (binF .Add u v M.h) := by
  cases x with
  | int i => cases y with
    | int j => obtain rfl := dx.i; obtain rfl := dy.i; cases e; exact .inl ⟨_, rfl, .int _⟩
    | _ => cases e
  | str i => cases y with
    | str j =>
      obtain rfl := dx.s; obtain rfl := dy.s
      simp only [addV, Option.map_eq_some_iff] at e
      obtain ⟨k, e, rfl⟩ := e
      obtain ⟨hl, rfl⟩ := catV_ok e
      exact .inl ⟨_, by simp only [binF]; rw [if_pos hl], .str _⟩
    | _ => cases e
  | tup i => cases y with
    | tup j =>
      obtain ⟨vs, rfl, d1⟩ := dx.t; obtain ⟨ws, rfl, d2⟩ := dy.t
      simp only [addV, Option.map_eq_some_iff] at e
      obtain ⟨k, e, rfl⟩ := e
      obtain ⟨hl, rfl⟩ := catV_ok e
      rw [d1.len, d2.len] at hl
      exact .inl ⟨_, by simp only [binF]; rw [if_pos hl], .tup (d1.app d2)⟩
    | _ => cases e
  | lst o i => cases y with
    | lst p j =>
      obtain ⟨n, vs, rfl, h1, d1⟩ := dx.ls; obtain ⟨m, ws, rfl, h2, d2⟩ := dy.ls
      simp only [addV, Option.map_eq_some_iff] at e
      obtain ⟨k, e, rfl⟩ := e
      obtain ⟨hl, rfl⟩ := catV_ok e
      rw [d1.len, d2.len] at hl
      exact .inr ⟨_, _, rfl, by simp only [binF, h1, h2]; rw [if_pos hl], d1.app d2⟩
    | _ => cases e
  | _ => cases e
theorem intV_ok {f : Int → Int → Option PV} {x y z : PV} {u v : Val} (dx : DL M x u) (dy : DL M y v) (e : intV f x y = some z) : ∃ i j, u = .int i ∧ v = .int j ∧ f i j = some z := by
  cases x with
  | int i => cases y with
    | int j => exact ⟨i, j, dx.i, dy.i, e⟩
    | _ => cases e
  | _ => cases e
theorem if_ok {c : Prop} [Decidable c] {x z : PV} (e : (if c then some x else none) = some z) : c ∧ z = x := by
  split at e
  · rename_i h; cases e; exact ⟨h, rfl⟩
  · cases e
theorem binV_ok {op : Operator} {x y z : PV} {u v : Val} (dx : DL M x u) (dy : DL M y v) (e : binV op x y = some z) : Res M z (binF op u v M.h) := by
  cases op with
  | Add => exact addV_ok dx dy e
  | Sub => obtain ⟨i, j, rfl, rfl, e⟩ := intV_ok dx dy e; cases e; exact .inl ⟨_, rfl, .int _⟩
  | Mult =>
    cases x with
    | int i => cases y with
      | int j =>
        obtain rfl := dx.i; obtain rfl := dy.i
        obtain ⟨h, rfl⟩ := if_ok e
        exact .inl ⟨_, by simp only [binF]; rw [if_pos h], .int _⟩
      | _ => cases e
    | lst o i => cases y with
      | int j =>
        obtain ⟨n, vs, rfl, h1, d1⟩ := dx.ls; obtain rfl := dy.i
        obtain ⟨h, rfl⟩ := if_ok e
        rw [d1.len] at h
        exact .inr ⟨_, _, rfl, by simp only [binF, h1]; rw [if_pos h]; rfl, d1.rep _⟩
      | _ => cases e
    | _ => cases e
  | FloorDiv => obtain ⟨i, j, rfl, rfl, e⟩ := intV_ok dx dy e; obtain ⟨h, rfl⟩ := if_ok e; exact .inl ⟨_, by simp only [binF]; rw [if_pos h], .int _⟩
  | Mod => obtain ⟨i, j, rfl, rfl, e⟩ := intV_ok dx dy e; obtain ⟨h, rfl⟩ := if_ok e; exact .inl ⟨_, by simp only [binF]; rw [if_pos h], .int _⟩
  | Pow => obtain ⟨i, j, rfl, rfl, e⟩ := intV_ok dx dy e; obtain ⟨h, rfl⟩ := if_ok e; exact .inl ⟨_, by simp only [binF]; rw [if_pos h], .int _⟩
  | LShift => obtain ⟨i, j, rfl, rfl, e⟩ := intV_ok dx dy e; obtain ⟨h, rfl⟩ := if_ok e; exact .inl ⟨_, by simp only [binF]; rw [if_pos h], .int _⟩
  | RShift => obtain ⟨i, j, rfl, rfl, e⟩ := intV_ok dx dy e; obtain ⟨h, rfl⟩ := if_ok e; exact .inl ⟨_, by simp only [binF]; rw [if_pos h], .int _⟩
  | BitAnd => obtain ⟨i, j, rfl, rfl, e⟩ := intV_ok dx dy e; cases e; exact .inl ⟨_, rfl, .int _⟩
  | BitOr => obtain ⟨i, j, rfl, rfl, e⟩ := intV_ok dx dy e; cases e; exact .inl ⟨_, rfl, .int _⟩
  | BitXor => obtain ⟨i, j, rfl, rfl, e⟩ := intV_ok dx dy e; cases e; exact .inl ⟨_, rfl, .int _⟩
  | _ => cases e
theorem ipV_ok {op : Operator} {x y z : PV} {u v : Val} (dx : DL M x u) (dy : DL M y v) (e : ipV op x y = some z) : ∃ t, ipF op u v M.h = .ok t M.h ∧ DF M z t := by
  cases op with
  | Add =>
    cases x with
    | int i => cases y with
      | int j => obtain rfl := dx.i; obtain rfl := dy.i; cases e; exact ⟨_, rfl, .int _⟩
      | _ => cases e
    | str i => cases y with
      | str j =>
        obtain rfl := dx.s; obtain rfl := dy.s
        simp only [ipV, Option.map_eq_some_iff] at e
        obtain ⟨k, e, rfl⟩ := e
        obtain ⟨hl, rfl⟩ := catV_ok e
        exact ⟨_, by simp only [ipF]; rw [if_pos hl], .str _⟩
      | _ => cases e
    | _ => cases e
  | Sub => obtain ⟨i, j, rfl, rfl, e⟩ := intV_ok dx dy e; cases e; exact ⟨_, rfl, .int _⟩
  | Mult => obtain ⟨i, j, rfl, rfl, e⟩ := intV_ok dx dy e; obtain ⟨h, rfl⟩ := if_ok e; exact ⟨_, by simp only [ipF]; rw [if_pos h], .int _⟩
  | FloorDiv => obtain ⟨i, j, rfl, rfl, e⟩ := intV_ok dx dy e; obtain ⟨h, rfl⟩ := if_ok e; exact ⟨_, by simp only [ipF]; rw [if_pos h], .int _⟩
  | Mod => obtain ⟨i, j, rfl, rfl, e⟩ := intV_ok dx dy e; obtain ⟨h, rfl⟩ := if_ok e; exact ⟨_, by simp only [ipF]; rw [if_pos h], .int _⟩
  | LShift => obtain ⟨i, j, rfl, rfl, e⟩ := intV_ok dx dy e; obtain ⟨h, rfl⟩ := if_ok e; exact ⟨_, by simp only [ipF]; rw [if_pos h], .int _⟩
  | RShift => obtain ⟨i, j, rfl, rfl, e⟩ := intV_ok dx dy e; obtain ⟨h, rfl⟩ := if_ok e; exact ⟨_, by simp only [ipF]; rw [if_pos h], .int _⟩
  | BitAnd => obtain ⟨i, j, rfl, rfl, e⟩ := intV_ok dx dy e; cases e; exact ⟨_, rfl, .int _⟩
  | BitOr => obtain ⟨i, j, rfl, rfl, e⟩ := intV_ok dx dy e; cases e; exact ⟨_, rfl, .int _⟩
  | BitXor => obtain ⟨i, j, rfl, rfl, e⟩ := intV_ok dx dy e; cases e; exact ⟨_, rfl, .int _⟩
  | _ => cases e
theorem fmtV_ok {k : Nat} {x z : PV} {u : Val} (dx : DL M x u) (e : fmtV k x = some z) : Res M z (fmtF k u M.h) := by
  unfold fmtV at e
  unfold fmtF
  split at e
  · obtain rfl := dx.s
    dsimp only
    split at e
    · rename_i h
      cases e
      rw [if_pos h]
      exact .inl ⟨_, rfl, .str _⟩
    · cases e
  · obtain rfl := dx.i
    dsimp only
    split at e
    · rename_i h
      cases e
      rw [if_pos h]
      exact .inl ⟨_, rfl, .str _⟩
    · cases e
  · cases e
theorem strs_dos : ∀ {ps : List PV} {us : List Val} {ts : List (List Nat)}, DOs M .tmp ps us → isStrsV ps = some ts → isStrs us = some ts
  | [], us, ts, d, e => by
    cases d
    cases e
    rfl
  | p :: ps, us, ts, d, e => by
    cases d with
    | cons d1 d2 =>
      unfold isStrsV at e
      split at e
      · rename_i hq; cases hq
      · rename_i s r hq
        cases hq
        obtain rfl := d1.dl.s
        cases q : isStrsV ps with
        | none => rw [q] at e; cases e
        | some us' =>
          rw [q] at e
          cases e
          unfold isStrs
          rw [strs_dos d2 q]
          rfl
      · cases e
theorem jsV_ok {ps : List PV} {us : List Val} {z : PV} (d : DOs M .tmp ps us) (e : jsV ps = some z) : Res M z (jsF us M.h) := by
  unfold jsV at e
  unfold jsF
  cases q : isStrsV ps with
  | none => rw [q] at e; cases e
  | some ts =>
    rw [q] at e
    dsimp only at e
    rw [strs_dos d q]
    dsimp only
    split at e
    · rename_i h
      cases e
      rw [if_pos h]
      exact .inl ⟨_, rfl, .str _⟩
    · cases e
theorem catRV_ok {yz : List (List Nat × List Nat)} {x y z : PV} {u v : Val} (dx : DL M x u) (dy : DL M y v) (e : catRV yz x y = some z) : Res M z (catK yz u v M.h) := by
  unfold catRV at e
  split at e
  · rename_i t
    obtain rfl := dy.s
    split at e
    · rename_i r hr
      have := addV_ok (y := .str r) (v := .str r) dx (.f (.str _)) e
      unfold catK
      simp only [hr]
      exact this
    · cases e
  · cases e
theorem isEmpty_len {α β : Type} {xs : List α} {ys : List β} (h : xs.length = ys.length) : xs.isEmpty = ys.isEmpty := by
  cases xs <;> cases ys <;> first | rfl | (simp at h)
theorem GD.len {κ : Type} {mk : κ → Pl} {r : List (κ × PV)} {s : List (κ × Val)} (d : GD M mk r s) : r.length = s.length := by
  have := congrArg List.length d.keys
  simpa using this.symm
theorem truV_ok {w : W} (hp : HOK M w) {x : PV} {u : Val} {k : Bool} (d : DL M x u) (e : truV w.H x = some k) : truF M.h u = some k := by
  cases x with
  | non => obtain rfl := d.n; exact e
  | bl _ => obtain rfl := d.b; exact e
  | int _ => obtain rfl := d.i; exact e
  | str _ =>
    obtain rfl := d.s
    obtain ⟨h, rfl⟩ := limO_ok e
    simp only [truF]; rw [if_pos h]
  | tup _ =>
    obtain ⟨vs, rfl, dv⟩ := d.t
    cases e
    simp only [truF]
    rw [isEmpty_len dv.len]
  | lst _ _ =>
    obtain ⟨n, vs, rfl, h, dv⟩ := d.ls
    cases e
    simp only [truF, h]
    rw [isEmpty_len dv.len]
  | ref j =>
    obtain ⟨n, rfl, hn⟩ := d.r
    simp only [truV] at e
    split at e
    · rename_i kvs hv
      obtain ⟨n', gs, a1, a2, a3, a4, a5⟩ := hp.dct hv
      rw [hn] at a1
      cases a1
      cases e
      simp only [truF, a3]
      rw [isEmpty_len a4.len]
    · cases e
  | drw => cases e
theorem slV_ok {x z : PV} {u : Val} {lo hi : Option Int} (d : DL M x u) (e : slV x lo hi = some z) : Res M z (slF u lo hi M.h) := by
  cases x with
  | str s =>
    obtain rfl := d.s
    obtain ⟨h, rfl⟩ := limO_ok e
    exact .inl ⟨_, by simp only [slF]; rw [if_pos h], .str _⟩
  | tup _ =>
    obtain ⟨vs, rfl, dv⟩ := d.t
    cases e
    exact .inl ⟨_, rfl, .tup (dv.cut _ _)⟩
  | lst _ _ =>
    obtain ⟨n, vs, rfl, h, dv⟩ := d.ls
    cases e
    exact .inr ⟨_, _, rfl, by simp only [slF, h], dv.cut _ _⟩
  | _ => cases e
theorem isInts_P : ∀ {ps : List PV} {vs : List Val} {ns : List Int}, DFs M ps vs → isIntsV ps = some ns → isInts vs = some ns
  | [], _, _, d, e => by cases d; exact e
  | .int i :: ps, _, ns, d, e => by
    cases d with
    | cons d1 d2 =>
      cases d1
      simp only [isIntsV, Option.map_eq_some_iff] at e
      obtain ⟨ms, e1, rfl⟩ := e
      simp only [isInts, isInts_P d2 e1, Option.map_some]
  | .non :: _, _, _, _, e => by cases e
  | .bl _ :: _, _, _, _, e => by cases e
  | .str _ :: _, _, _, _, e => by cases e
  | .tup _ :: _, _, _, _, e => by cases e
  | .lst _ _ :: _, _, _, _, e => by cases e
  | .ref _ :: _, _, _, _, e => by cases e
  | .drw :: _, _, _, _, e => by cases e
theorem isStrs_P : ∀ {ps : List PV} {vs : List Val} {ns : List (List Nat)}, DFs M ps vs → isStrsV ps = some ns → isStrs vs = some ns
  | [], _, _, d, e => by cases d; exact e
  | .str i :: ps, _, ns, d, e => by
    cases d with
    | cons d1 d2 =>
      cases d1
      simp only [isStrsV, Option.map_eq_some_iff] at e
      obtain ⟨ms, e1, rfl⟩ := e
      simp only [isStrs, isStrs_P d2 e1, Option.map_some]
  | .non :: _, _, _, _, e => by cases e
  | .bl _ :: _, _, _, _, e => by cases e
  | .int _ :: _, _, _, _, e => by cases e
  | .tup _ :: _, _, _, _, e => by cases e
  | .lst _ _ :: _, _, _, _, e => by cases e
  | .ref _ :: _, _, _, _, e => by cases e
  | .drw :: _, _, _, _, e => by cases e
theorem dfs_ints : ∀ ns : List Int, DFs M (ns.map PV.int) (ns.map Val.int)
  | [] => .nil
  | n :: r => .cons (.int n) (dfs_ints r)
theorem dfs_strs : ∀ ns : List (List Nat), DFs M (ns.map PV.str) (ns.map Val.str)
  | [] => .nil
  | n :: r => .cons (.str n) (dfs_strs r)
theorem keys_ints {mk : Ky → Pl} : ∀ {r : List (Ky × PV)} {s : List (Ky × Val)} {ns : List Int}, GD M mk r s → isIntsV (r.map fun q => ofKyV q.1) = some ns → isInts (s.map fun q => ofKy q.1) = some ns
  | _, _, _, .nil, e => e
  | _, _, ns, .cons (f := .inl i) d ds, e => by
    rw [List.map_cons] at e ⊢
    have e' : (isIntsV (List.map (fun (q : Ky × PV) => ofKyV q.1) _)).map (i :: ·) = some ns := e
    rw [Option.map_eq_some_iff] at e'
    obtain ⟨ms, e1, rfl⟩ := e'
    have ih := keys_ints ds e1
    show (isInts (List.map (fun (q : Ky × Val) => ofKy q.1) _)).map (i :: ·) = _
    rw [ih]
    rfl
  | _, _, ns, .cons (f := .inr i) d ds, e => by cases e
theorem srtV_ok {o : Option (List Int)} {z : PV} (e : srtV o = some z) : ∃ ns, o = some ns ∧ ns.length < 64 ∧ z = .lst .ow ((srtI ns).map .int) := by
  unfold srtV at e
  split at e
  · obtain ⟨h, rfl⟩ := if_ok e; exact ⟨_, rfl, h, rfl⟩
  · cases e
theorem isPrs_P : ∀ {ps : List PV} {vs : List Val} {qs : List (Int × Int)}, DFs M ps vs → isPrsV ps = some qs → isPrs vs = some qs
  | [], _, _, d, e => by cases d; simpa [isPrsV, isPrs] using e
  | p :: ps, _, qs, d, e => by
    cases d with
    | cons d1 d2 =>
      unfold isPrsV at e
      split at e
      · rename_i q; cases q
      · rename_i i j r q
        cases q
        rw [Option.map_eq_some_iff] at e
        obtain ⟨rs, e1, rfl⟩ := e
        cases d1 with
        | tup d1 =>
          cases d1 with
          | cons a1 a2 =>
            cases a2 with
            | cons b1 b2 =>
              cases b2
              cases a1
              cases b1
              unfold isPrs
              rw [isPrs_P d2 e1]
              rfl
      · cases e
theorem isInts_noP : ∀ {ps : List PV} {vs : List Val}, DFs M ps vs → isIntsV ps = none → isInts vs = none
  | [], _, d, e => by simp [isIntsV] at e
  | p :: ps, _, d, e => by
    cases d with
    | cons d1 d2 =>
      cases p with
      | int i =>
        simp only [isIntsV, Option.map_eq_none_iff] at e
        cases d1
        simp only [isInts, isInts_noP d2 e, Option.map_none]
      | _ => cases d1 <;> rfl
theorem dfs_prs : ∀ ps : List (Int × Int), DFs M (ps.map prP) (ps.map prV)
  | [] => .nil
  | p :: ps => .cons (.tup (.cons (.int _) (.cons (.int _) .nil))) (dfs_prs ps)
theorem srtLV_ok {n : Nat} {vs : List Val} {ps : List PV} {z : PV} (h : M.h[n]? = some (.lst vs) ∨ M.h[n]? = some (.frz vs)) (dv : DFs M ps vs) (e : srtLV ps = some z) : Res M z (primF .sorted [.ref n] M.h) := by
  have hs : seqOf M.h (.ref n) = some vs := by
    rcases h with h | h <;> simp only [seqOf, h]
  unfold srtLV at e
  cases q : isIntsV ps with
  | some ns =>
    rw [q] at e
    obtain ⟨ms, e1, hl, rfl⟩ := srtV_ok e
    cases e1
    exact .inr ⟨_, _, rfl, by simp only [primF, hs]; rw [isInts_P dv q]; simp only []; rw [if_pos hl], dfs_ints _⟩
  | none =>
    rw [q] at e
    dsimp only at e
    unfold srtPV at e
    split at e
    · rename_i qs eq
      split at e
      · rename_i hc
        cases e
        exact .inr ⟨_, _, rfl, by simp only [primF, hs]; rw [isInts_noP dv q]; simp only [srtPF]; rw [isPrs_P dv eq]; simp only []; rw [if_pos hc], dfs_prs _⟩
      · cases e
    · cases e
theorem ggV_ok {kvs : List (List Nat × Int)} {d : Option Int} {x z : PV} {u : Val} (dx : DL M x u) (e : ggV kvs d x = some z) : Res M z (ggF kvs d u M.h) := by
  unfold ggV at e
  split at e
  · obtain rfl := dx.s
    rw [Option.map_eq_some_iff] at e
    obtain ⟨j, e1, rfl⟩ := e
    exact .inl ⟨_, by simp only [ggF, e1]; rfl, .int _⟩
  · cases e
theorem maxDV_ok {x y z : PV} {u v : Val} (dx : DL M x u) (dy : DL M y v) (e : maxDV x y = some z) : Res M z (maxDF u v M.h) := by
  unfold maxDV at e
  split at e
  · rename_i ow vs j
    obtain ⟨n, ws, rfl, h, dv⟩ := dx.ls
    obtain rfl := dy.i
    rw [Option.map_eq_some_iff] at e
    obtain ⟨ns, e1, rfl⟩ := e
    exact .inl ⟨_, by simp only [maxDF, seqOf, h]; rw [isInts_P dv e1], .int _⟩
  · cases e
theorem rlV_ok {x y z : PV} {u v : Val} (dx : DL M x u) (dy : DL M y v) (e : rlV x y = some z) : Res M z (rlF u v M.h) := by
  unfold rlV at e
  split at e
  · rename_i i j
    obtain rfl := dx.i
    obtain rfl := dy.i
    split at e
    · rename_i hc
      cases e
      obtain ⟨c1, c2, c3⟩ := hc
      unfold inH at c1 c2
      rw [decide_eq_true_eq] at c1 c2
      have key : ∀ (k : Nat) (lo : Int), DFs M (rngV lo 1 k) (rangeV lo 1 k) := by
        intro k
        induction k with
        | zero => intro lo; exact .nil
        | succ k ih => intro lo; rw [rngV, rangeV]; exact .cons (.int _) (ih _)
      exact .inr ⟨_, _, rfl, by simp only [rlF]; rw [if_pos ⟨c1.1, c1.2, c2.1, c2.2, c3⟩], key _ _⟩
    · cases e
  · cases e
theorem mnV_ok {f : List Int → Option Int} {o : Option (List Int)} {z : PV} (e : mnV f o = some z) : ∃ ns i, o = some ns ∧ f ns = some i ∧ z = .int i := by
  unfold mnV at e
  split at e
  · rw [Option.map_eq_some_iff] at e
    obtain ⟨i, e1, rfl⟩ := e
    exact ⟨_, i, rfl, e1, rfl⟩
  · cases e
theorem DLs.one {x : PV} {us : List Val} (d : DLs M [x] us) : ∃ u, us = [u] ∧ DL M x u := by
  cases d with
  | cons d1 d2 => cases d2; exact ⟨_, rfl, d1⟩
theorem DLs.two {x y : PV} {us : List Val} (d : DLs M [x, y] us) : ∃ u v, us = [u, v] ∧ DL M x u ∧ DL M y v := by
  cases d with
  | cons d1 d2 =>
    obtain ⟨v, rfl, d3⟩ := d2.one
    exact ⟨_, _, rfl, d1, d3⟩
theorem DLs.nil_ {us : List Val} (d : DLs M [] us) : us = [] := by cases d; rfl
theorem primP_ok {w : W} (hp : HOK M w) {p : Prim} {xs : List PV} {us : List Val} {z : PV} (D : DLs M xs us) (e : primP p xs w.H = some z) : Res M z (primF p us M.h) := by
  unfold primP at e
  split at e
  · obtain ⟨u, rfl, d⟩ := D.one
    obtain rfl := d.s
    obtain ⟨h, rfl⟩ := limO_ok e
    exact .inl ⟨_, by simp only [primF]; rw [if_pos h], .int _⟩
  · obtain ⟨u, rfl, d⟩ := D.one
    obtain ⟨vs, rfl, dv⟩ := d.t
    cases e
    exact .inl ⟨.int vs.length, by simp only [primF, seqOf], by rw [dv.len]; exact .int _⟩
  · obtain ⟨u, rfl, d⟩ := D.one
    obtain ⟨n, vs, rfl, h, dv⟩ := d.ls
    cases e
    exact .inl ⟨.int vs.length, by simp only [primF, seqOf, h], by rw [dv.len]; exact .int _⟩
  · obtain ⟨u, rfl, d⟩ := D.one
    obtain ⟨n, rfl, hn⟩ := d.r
    split at e
    · rename_i kvs hv
      obtain ⟨n', gs, a1, a2, a3, a4, a5⟩ := hp.dct hv
      rw [hn] at a1
      cases a1
      cases e
      exact .inl ⟨.int gs.length, by simp only [primF, seqOf, dctOf, a3], by rw [a4.len]; exact .int _⟩
    · cases e
  · obtain ⟨u, rfl, d⟩ := D.one
    obtain rfl := d.i
    cases e
    exact .inl ⟨_, rfl, .int _⟩
  · obtain ⟨u, rfl, d⟩ := D.one
    obtain rfl := d.b
    cases e
    exact .inl ⟨_, rfl, .int _⟩
  · obtain ⟨u, rfl, d⟩ := D.one
    obtain rfl := d.s
    unfold intOf at e
    split at e
    · rename_i n hn
      obtain ⟨h, rfl⟩ := if_ok e
      exact .inl ⟨_, by simp only [primF]; rw [hn]; simp only []; rw [if_pos h], .int _⟩
    · cases e
  · obtain ⟨u, rfl, d⟩ := D.one
    obtain rfl := d.i
    cases e
    exact .inl ⟨_, rfl, .int _⟩
  · obtain ⟨u, v, rfl, d1, d2⟩ := D.two
    obtain rfl := d1.i
    obtain rfl := d2.i
    cases e
    exact .inl ⟨_, rfl, .int _⟩
  · obtain ⟨u, v, rfl, d1, d2⟩ := D.two
    obtain rfl := d1.i
    obtain rfl := d2.i
    cases e
    exact .inl ⟨_, rfl, .int _⟩
  · obtain ⟨u, rfl, d⟩ := D.one
    obtain rfl := d.i
    obtain ⟨h, rfl⟩ := if_ok e
    exact .inl ⟨_, by simp only [primF]; rw [if_pos h], .str _⟩
  · obtain ⟨u, rfl, d⟩ := D.one
    obtain ⟨vs, rfl, dv⟩ := d.t
    cases e
    exact .inl ⟨_, rfl, .tup dv⟩
  · obtain ⟨u, rfl, d⟩ := D.one
    obtain ⟨n, vs, rfl, h, dv⟩ := d.ls
    cases e
    exact .inl ⟨.tup vs, by simp only [primF, seqOf, h]; rfl, .tup dv⟩
  · obtain ⟨u, rfl, d⟩ := D.one
    obtain ⟨vs, rfl, dv⟩ := d.t
    cases e
    exact .inr ⟨_, _, rfl, rfl, dv⟩
  · obtain ⟨u, rfl, d⟩ := D.one
    obtain ⟨n, vs, rfl, h, dv⟩ := d.ls
    cases e
    exact .inr ⟨_, _, rfl, by simp only [primF, seqOf, h], dv⟩
  · obtain ⟨u, rfl, d⟩ := D.one
    obtain ⟨n, vs, rfl, h, dv⟩ := d.ls
    simp only [Option.map_eq_some_iff] at e
    obtain ⟨ns, e1, rfl⟩ := e
    exact .inl ⟨_, by simp only [primF, seqOf, h]; rw [isInts_P dv e1], .int _⟩
  · obtain ⟨u, rfl, d⟩ := D.one
    obtain ⟨n, vs, rfl, h, dv⟩ := d.ls
    exact srtLV_ok (.inl h) dv e
  · obtain ⟨u, rfl, d⟩ := D.one
    obtain ⟨n, rfl, hn⟩ := d.r
    split at e
    · rename_i kvs hv
      obtain ⟨n', gs, a1, a2, a3, a4, a5⟩ := hp.dct hv
      rw [hn] at a1
      cases a1
      obtain ⟨ns, e1, hl, rfl⟩ := srtV_ok e
      exact .inr ⟨_, _, rfl, by simp only [primF, seqOf, dctOf, a3]; rw [keys_ints a4 e1]; simp only []; rw [if_pos hl], dfs_ints _⟩
    · cases e
  · obtain ⟨u, rfl, d⟩ := D.one
    obtain rfl := d.s
    cases e
    exact .inl ⟨_, rfl, .int _⟩
  · obtain ⟨u, rfl, d⟩ := D.one
    obtain ⟨n, vs, rfl, h, dv⟩ := d.ls
    obtain ⟨ns, i, e1, e2, rfl⟩ := mnV_ok e
    exact .inl ⟨_, by simp only [primF, mnK, seqOf, h]; rw [isInts_P dv e1]; simp only []; rw [e2], .int _⟩
  · obtain ⟨u, rfl, d⟩ := D.one
    obtain ⟨vs, rfl, dv⟩ := d.t
    obtain ⟨ns, i, e1, e2, rfl⟩ := mnV_ok e
    exact .inl ⟨_, by simp only [primF, mnK, seqOf]; rw [isInts_P dv e1]; simp only []; rw [e2], .int _⟩
  · obtain ⟨u, rfl, d⟩ := D.one
    obtain ⟨n, vs, rfl, h, dv⟩ := d.ls
    obtain ⟨ns, i, e1, e2, rfl⟩ := mnV_ok e
    exact .inl ⟨_, by simp only [primF, mnK, seqOf, h]; rw [isInts_P dv e1]; simp only []; rw [e2], .int _⟩
  · obtain ⟨u, rfl, d⟩ := D.one
    obtain ⟨vs, rfl, dv⟩ := d.t
    obtain ⟨ns, i, e1, e2, rfl⟩ := mnV_ok e
    exact .inl ⟨_, by simp only [primF, mnK, seqOf]; rw [isInts_P dv e1]; simp only []; rw [e2], .int _⟩
  · cases e
theorem idx_P {x : PV} {u : Val} (d : DL M x u) (h : flatP' x = true) : ∀ {ys : List PV} {vs : List Val} (i : Nat), DFs M ys vs → ys.all flatP' = true → idxF u vs i = idxV x ys i
  | [], _, i, ds, _ => by cases ds; rfl
  | y :: ys, _, i, ds, h' => by
    cases ds with
    | cons d1 d2 =>
      rw [List.all_cons, Bool.and_eq_true] at h'
      rw [idxF, idxV, eqW_P (.f d1) d h'.1 h, idx_P d h (i + 1) d2 h'.2]
theorem toKy_P {x : PV} {u : Val} {key : Ky} (d : DL M x u) (h : toKyV x = some key) : toKy u = some key := by
  cases x with
  | int _ => obtain rfl := d.i; exact h
  | str _ => obtain rfl := d.s; exact h
  | _ => cases h
theorem getD_ok {mk : Ky → Pl} {kvs : List (Ky × PV)} {gs : List (Ky × Val)} {key : Ky} {d z : PV} {du : Val} (g : GD M mk kvs gs) (dd : DL M d du) (e : plainO (some ((vget kvs key).getD d)) = some z) : DF M z ((dget gs key).getD du) := by
  simp only [plainO] at e
  split at e
  · cases e
  · rename_i hno
    cases e
    cases q : vget kvs key with
    | none =>
      rw [vget_n g q]
      rw [q] at hno
      exact dd.sh (by simpa using hno)
    | some p =>
      obtain ⟨v, h1, h2⟩ := vget_g g q
      rw [h1]
      rw [q] at hno
      exact h2.sh (by simpa using hno)
theorem pmV_ok {w : W} (hp : HOK M w) {p : PM} {x : PV} {u : Val} {xs : List PV} {us : List Val} {z : PV} (dx : DL M x u) (D : DLs M xs us) (e : pmV p x xs w.H = some z) : Res M z (pmF p u us M.h) := by
  unfold pmV at e
  split at e
  · obtain ⟨v, rfl, d⟩ := D.one
    obtain rfl := dx.s; obtain rfl := d.s
    cases e
    exact .inl ⟨_, rfl, .int _⟩
  · obtain ⟨v, rfl, d⟩ := D.one
    obtain rfl := dx.s; obtain rfl := d.s
    obtain ⟨h, rfl⟩ := if_ok e
    exact .inl ⟨_, by simp only [pmF]; unfold findS at h; rw [if_pos h]; rfl, .int _⟩
  · obtain ⟨v, rfl, d⟩ := D.one
    obtain rfl := dx.s; obtain rfl := d.s
    cases e
    exact .inl ⟨_, rfl, .bl _⟩
  · obtain ⟨v, rfl, d⟩ := D.one
    obtain rfl := dx.s; obtain rfl := d.s
    obtain ⟨h, rfl⟩ := if_ok e
    exact .inr ⟨_, _, rfl, by simp only [pmF]; rw [if_pos h], dfs_strs _⟩
  · obtain rfl := D.nil_
    obtain rfl := dx.s
    obtain ⟨h, rfl⟩ := limO_ok e
    exact .inl ⟨_, by simp only [pmF]; rw [if_pos h]; rfl, .str _⟩
  · obtain ⟨v, rfl, d⟩ := D.one
    obtain rfl := dx.s; obtain rfl := d.s
    obtain ⟨h, rfl⟩ := limO_ok e
    exact .inl ⟨_, by simp only [pmF]; rw [if_pos h]; rfl, .str _⟩
  · obtain rfl := D.nil_
    obtain rfl := dx.s
    obtain ⟨h, rfl⟩ := if_ok e
    exact .inl ⟨_, by simp only [pmF]; rw [if_pos h]; rfl, .str _⟩
  · obtain rfl := D.nil_
    obtain rfl := dx.s
    obtain ⟨h, rfl⟩ := if_ok e
    exact .inl ⟨_, by simp only [pmF]; rw [if_pos h]; rfl, .str _⟩
  · obtain ⟨v, rfl, d⟩ := D.one
    obtain rfl := dx.s
    obtain ⟨n, vs, rfl, hn, dv⟩ := d.ls
    unfold joinV at e
    split at e
    · rename_i ts ht
      obtain ⟨h, rfl⟩ := if_ok e
      exact .inl ⟨_, by simp only [pmF, seqOf, hn]; rw [isStrs_P dv ht]; simp only []; rw [if_pos h], .str _⟩
    · cases e
  · obtain ⟨v, rfl, d⟩ := D.one
    obtain ⟨n, vs, rfl, hn, dv⟩ := dx.ls
    obtain ⟨h, e⟩ : _ ∧ _ := by
      unfold lidxV at e
      split at e
      · rename_i h; exact ⟨h, e⟩
      · cases e
    simp only [Option.map_eq_some_iff] at e
    obtain ⟨i, e1, rfl⟩ := e
    refine .inl ⟨.int i, ?_, .int _⟩
    simp only [pmF, seqOf, hn, flat_P d h.1, flats_P dv h.2, and_self, if_true]
    rw [idx_P d h.1 0 dv h.2, e1]
    rfl
  · obtain ⟨v, rfl, d⟩ := D.one
    obtain ⟨n, rfl, hn⟩ := dx.r
    split at e
    · rename_i kvs key hv hk
      obtain ⟨n', gs, a1, a2, a3, a4, a5⟩ := hp.dct hv
      rw [hn] at a1
      cases a1
      exact .inl ⟨_, by simp only [pmF, a3]; rw [toKy_P d hk], getD_ok a4 (.f .non) e⟩
    · cases e
  · obtain ⟨v, y, rfl, d, d2⟩ := D.two
    obtain ⟨n, rfl, hn⟩ := dx.r
    split at e
    · rename_i kvs key hv hk
      obtain ⟨n', gs, a1, a2, a3, a4, a5⟩ := hp.dct hv
      rw [hn] at a1
      cases a1
      exact .inl ⟨_, by simp only [pmF, a3]; rw [toKy_P d hk], getD_ok a4 d2 e⟩
    · cases e
  · cases e
theorem pmT_ok {w : W} (hp : HOK M w) {p : PM} {x : PV} {u : Val} (d : DL M x u) (e : pmT' p x w.H = true) : tyOkB M.h p u = true := by
  have dk : ∀ {k : Nat} {n : Nat}, M.mu[k]? = some n → (match w.H.ob[k]? with | some (.dct _) => true | _ => false) = true → ∃ gs, M.h[n]? = some (.dct gs) := fun {k n} hn e => by
    split at e
    · rename_i kvs hv
      obtain ⟨n', gs, a1, a2, a3, a4, a5⟩ := hp.dct hv
      rw [hn] at a1
      cases a1
      exact ⟨gs, a3⟩
    · cases e
  cases x with
  | str s => obtain rfl := d.s; cases p <;> first | rfl | cases e
  | lst o ps =>
    obtain ⟨n, vs, rfl, hn, _⟩ := d.ls
    cases p <;> first | (cases e; done) | (simp only [tyOkB, hn])
  | ref k =>
    obtain ⟨n, rfl, hn⟩ := d.r
    cases p <;> first | (cases e; done) | (obtain ⟨gs, hg⟩ := dk hn e; simp only [tyOkB, hg])
  | _ => cases p <;> cases e
theorem gixV_ok {g : Val} {x z : PV} {u : Val} (h : Hs) (d : DL M x u) (e : gixV g x = some z) : ∃ t, gixF g u h = .ok t h ∧ DF M z t := by
  unfold gixV at e
  split at e
  · obtain rfl := d.s
    split at e
    · rename_i ts ht
      split at e
      · rename_i j hj
        cases e
        exact ⟨_, by simp only [gixF, ht, hj], .int _⟩
      · cases e
    · cases e
  · obtain rfl := d.i
    split at e
    · rename_i ns hns
      obtain ⟨h, rfl⟩ := if_ok e
      exact ⟨_, by simp only [gixF, hns]; rw [if_pos h], .int _⟩
    · cases e
  · cases e
theorem isiV_ok {w : W} (hp : HOK M w) {t : Ty} {x : PV} {u : Val} {k : Bool} (d : DL M x u) (e : isiV w.H t x = some k) : isiF u t M.h = some k := by
  cases x with
  | non => obtain rfl := d.n; exact e
  | bl _ => obtain rfl := d.b; exact e
  | int _ => obtain rfl := d.i; exact e
  | str _ => obtain rfl := d.s; exact e
  | tup _ => obtain ⟨_, rfl, _⟩ := d.t; exact e
  | lst _ _ => obtain ⟨n, vs, rfl, h, _⟩ := d.ls; simp only [isiF, h]; exact e
  | ref j =>
    obtain ⟨n, rfl, hn⟩ := d.r
    simp only [isiV] at e
    split at e
    · rename_i kvs hv
      obtain ⟨n', gs, a1, a2, a3, a4, a5⟩ := hp.dct hv
      rw [hn] at a1
      cases a1
      simp only [isiF, a3]
      exact e
    · cases e
  | drw => cases e
end
mutual
theorem pvOf_ok {M : MS} : ∀ (v : Val) (p : PV), pvOf v = some p → DF M p v
  | .non, p, e => by simp only [pvOf] at e; cases e; exact .non
  | .bl _, p, e => by simp only [pvOf] at e; cases e; exact .bl _
  | .int _, p, e => by simp only [pvOf] at e; cases e; exact .int _
  | .str _, p, e => by simp only [pvOf] at e; cases e; exact .str _
  | .tup vs, p, e => by
    simp only [pvOf, Option.map_eq_some_iff] at e
    obtain ⟨ps, e1, rfl⟩ := e
    exact .tup (pvsOf_ok vs ps e1)
  | .ref _, p, e => by simp only [pvOf] at e; cases e
theorem pvsOf_ok {M : MS} : ∀ (vs : List Val) (ps : List PV), pvsOf vs = some ps → DFs M ps vs
  | [], ps, e => by simp only [pvsOf] at e; cases e; exact .nil
  | v :: vs, ps, e => by
    simp only [pvsOf] at e
    split at e
    · rename_i p qs h1 h2
      cases e
      exact .cons (pvOf_ok v p h1) (pvsOf_ok vs qs h2)
    · cases e
end
end MP

set_option Elab.async false
set_option linter.all false
set_option maxRecDepth 100000
set_option maxHeartbeats 4000000
set_option autoImplicit false
/-! VEg: expressions by values say what those of MP say. -/
namespace MP
open PySem PySem.Spec L2
/-- from the origin M0 on: a result with what stands for it -/
def PX {α β : Type} (rel : MS → MS → W → β → α → Prop) (b : Nat) (st : Sl) (M0 : MS) (w0 : W) (mp : R α) (ve : VR β) : Prop := match ve with
  | .stk => True
  | .ok a s' w' => ∃ u M', mp = .ok u M'.h ∧ Le b M0 M' ∧ Tk w0 M0 w' M' ∧ Sim b s' w' st M' ∧ rel M0 M' w' a u
  | .exc c vs s' w' => ∃ us M', mp = .exc c us M'.h ∧ Le b M0 M' ∧ Tk w0 M0 w' M' ∧ Sim b s' w' st M' ∧ DFs M' vs us
structure At (b : Nat) (M0 : MS) (w0 : W) (s : VSl) (w : W) (st : Sl) (M : MS) : Prop where
  l : Le b M0 M
  k : Tk w0 M0 w M
  s : Sim b s w st M
def relR (st : Sl) : MS → MS → W → RL → Val → Prop := fun M M' w' r u => RR M' st w' r u ∧ FrR M r u
def relV : MS → MS → W → PV → Val → Prop := fun M M' _ x u => DO M' .tmp x u ∧ Fr M x u
def relS : MS → MS → W → List PV → List Val → Prop := fun M M' _ ps us => DOs M' .tmp ps us ∧ FrS M ps us ∧ (cellsO ps us).Nodup
inductive RRs (M : MS) (st : Sl) (w : W) : List RL → List Val → Prop
  | nil : RRs M st w [] []
  | cons {r : RL} {u : Val} {rs : List RL} {us : List Val} : RR M st w r u → RRs M st w rs us → RRs M st w (r :: rs) (u :: us)
def relRs (st : Sl) : MS → MS → W → List RL → List Val → Prop := fun _ M' w' rs us => RRs M' st w' rs us
def relO : MS → MS → W → Option Int → Option Int → Prop := fun _ _ _ o u => o = u
section
variable {b : Nat} {M0 M M1 : MS} {w0 w w1 : W} {s s1 : VSl} {st : Sl}
theorem At.start (sim : Sim b s w st M) : At b M w s w st M := ⟨Le.refl _ _, Tk.refl _ _, sim⟩
theorem At.next {st' : Sl} (a : At b M0 w0 s w st M) (l : Le b M M1) (k : Tk w M w1 M1) (sim : Sim b s1 w1 st' M1) : At b M0 w0 s1 w1 st' M1 := ⟨a.l.trans l, Tk.trans a.l l a.k k, sim⟩
theorem PX.bind {α β γ δ : Type} {rel1 : MS → MS → W → β → α → Prop} {rel2 : MS → MS → W → δ → γ → Prop} {mp : R α} {ve : VR β} {F : α → Hs → R γ} {G : β → VSl → W → VR δ} (a : At b M0 w0 s w st M) (p : PX rel1 b st M w mp ve)
    (h : ∀ x s1 w1 u M1, At b M0 w0 s1 w1 st M1 → Le b M M1 → Tk w M w1 M1 → rel1 M M1 w1 x u → PX rel2 b st M0 w0 (F u M1.h) (G x s1 w1)) : PX rel2 b st M0 w0 (mp.bind F) (ve.bind G) := by
  cases ve with
  | stk => trivial
  | exc c vs s' w' =>
    obtain ⟨us, M', rfl, l, k, sim, d⟩ := p
    exact ⟨us, M', rfl, a.l.trans l, Tk.trans a.l l a.k k, sim, d⟩
  | ok x s' w' =>
    obtain ⟨u, M', rfl, l, k, sim, r⟩ := p
    exact h x s' w' u M' (a.next l k sim) l k r
theorem PX.lift {α β : Type} {rel : MS → MS → W → β → α → Prop} {mp : R α} {ve : VR β} (a : At b M0 w0 s w st M) (back : ∀ M1 w1 x u, rel M M1 w1 x u → rel M0 M1 w1 x u) (p : PX rel b st M w mp ve) : PX rel b st M0 w0 mp ve := by
  cases ve with
  | stk => trivial
  | exc c vs s' w' =>
    obtain ⟨us, M', rfl, l, k, sim, d⟩ := p
    exact ⟨us, M', rfl, a.l.trans l, Tk.trans a.l l a.k k, sim, d⟩
  | ok x s' w' =>
    obtain ⟨u, M', rfl, l, k, sim, r⟩ := p
    exact ⟨u, M', rfl, a.l.trans l, Tk.trans a.l l a.k k, sim, back _ _ _ _ r⟩
theorem relR_back (a : At b M0 w0 s w st M) : ∀ M1 w1 x u, relR st M M1 w1 x u → relR st M0 M1 w1 x u := fun _ _ _ _ h => ⟨h.1, FrR.back a.l h.2⟩
theorem FrS.back {ps : List PV} {us : List Val} (l : Le b M0 M) (f : FrS M ps us) : FrS M0 ps us := fun n hn h e => f n hn (Nat.lt_of_lt_of_le h l.len) (l.tmp n h e).1
theorem relS_back (a : At b M0 w0 s w st M) : ∀ M1 w1 x u, relS M M1 w1 x u → relS M0 M1 w1 x u := fun _ _ _ _ h => ⟨h.1, h.2.1.back a.l, h.2.2⟩
theorem PX.ok {α β : Type} {rel : MS → MS → W → β → α → Prop} (a : At b M0 w0 s w st M) {x : β} {u : α} (h : rel M0 M w x u) : PX rel b st M0 w0 (.ok u M.h) (.ok x s w) := ⟨u, M, rfl, a.l, a.k, a.s, h⟩
/-- a value without an owner -/
theorem PX.val (a : At b M0 w0 s w st M) {x : PV} {u : Val} (d : DF M x u) : PX (relR st) b st M0 w0 (.ok u M.h) (.ok (.v x) s w) := PX.ok a ⟨.f d, Fr.df d⟩
theorem PX.res (a : At b M0 w0 s w st M) {z : PV} {r : R Val} (h : Res M z r) : PX (relR st) b st M0 w0 r (.ok (.v z) s w) := by
  obtain ⟨t, M', rfl, l, k, sim, d, f⟩ := h.post a.s
  exact ⟨t, M', rfl, a.l.trans l, Tk.trans a.l l a.k k, sim, d, f.back a.l⟩
theorem PX.ofR (a : At b M0 w0 s w st M) {o : Option PV} {r : R Val} (h : ∀ z, o = some z → Res M z r) : PX (relR st) b st M0 w0 r (MP.ofR o s w) := by
  cases o with
  | none => trivial
  | some z => exact PX.res a (h z rfl)
theorem lB_ok {γ δ : Type} {rel : MS → MS → W → δ → γ → Prop} {K : PV → VSl → W → VR δ} {mp : R γ} {r : RL} {u : Val} (a : At b M0 w0 s w st M) (rr : RR M st w r u) (h : ∀ x, DL M x u → PX rel b st M0 w0 mp (K x s w)) : PX rel b st M0 w0 mp (lB K r s w) := by
  unfold lB
  cases q : ldB r s w with
  | none => trivial
  | some x => exact h x (a.s.ldB rr q)
theorem ld2_ok {γ δ : Type} {rel : MS → MS → W → δ → γ → Prop} {K : PV → PV → VSl → W → VR δ} {mp : R γ} {r r' : RL} {u v : Val} (a : At b M0 w0 s w st M) (rr : RR M st w r u) (rr' : RR M st w r' v) (h : ∀ x y, DL M x u → DL M y v → PX rel b st M0 w0 mp (K x y s w)) : PX rel b st M0 w0 mp (ld2 K r r' s w) := by
  unfold ld2
  cases q : ldB r s w with
  | none => trivial
  | some x =>
    cases q' : ldB r' s w with
    | none => trivial
    | some y => exact h x y (a.s.ldB rr q) (a.s.ldB rr' q')
theorem truX_ok {r : RL} {u : Val} {k : Bool} (a : At b M0 w0 s w st M) (rr : RR M st w r u) (e : truX r s w = some k) : truF M.h u = some k := by
  unfold truX at e
  cases q : ldB r s w with
  | none => rw [q] at e; cases e
  | some x => rw [q] at e; exact truV_ok a.s.hp (a.s.ldB rr q) e
end
/-! ### what is taken along -/
theorem esc_ok {b : Nat} {M0 M : MS} {w0 w : W} {s : VSl} {st : Sl} {r : RL} {u : Val} (a : At b M0 w0 s w st M) (rr : RR M st w r u) (fr : FrR M0 r u) :
    match lE r s w with
    | .stk => True
    | .exc _ _ _ _ => False
    | .ok x s' w' => ∃ M', M'.h = M.h ∧ At b M0 w0 s' w' st M' ∧ Le b M M' ∧ Tk w M w' M' ∧ DO M' .tmp x u ∧ Fr M0 x u := by
  cases r with
  | v x => exact ⟨M, rfl, a, Le.refl _ _, Tk.refl _ _, rr, fr⟩
  | p q t =>
    unfold lE
    by_cases hk : okT q t w = true
    · simp only []
      rw [if_pos hk]
      cases e : getP q s w with
      | none => trivial
      | some p =>
        cases p with
        | lst o ps =>
          unfold esc1
          simp only []
          cases e' : setP q (.lst .sh ps) 0 s w with
          | none => trivial
          | some sw =>
            obtain ⟨s', w'⟩ := sw
            simp only []
            cases o with
            | ow =>
              obtain ⟨n, vs, rfl, h1, h2, dv, F⟩ := a.s.place rr hk e e'
              obtain ⟨sim, le, tk, dv', _⟩ := F vs dv (fun _ => ⟨rfl, rfl⟩) (fun h => absurd h (Nat.lt_irrefl 0))
              have hh : (M.put n (.lst vs) (tgO b q .sh)).h = M.h := by
                show M.h.set n _ = M.h
                refine List.ext_getElem? fun i => ?_
                by_cases c : n = i
                · subst c
                  rw [List.getElem?_set_self (lt_of h2), h2]
                · rw [List.getElem?_set_ne c]
              refine ⟨_, hh, a.next le tk sim, le, tk, ?_, ?_⟩
              · exact .f (.lst put_ow (put_at (lt_of h2)) dv')
              · intro m hm
                cases hm
            | sh =>
              -- it stands still already: nothing changes
              have d := (a.s.at_ rr hk e).sh rfl
              cases q with
              | sl i =>
                simp only [setP, Option.some.injEq, Prod.mk.injEq] at e'
                obtain ⟨rfl, rfl⟩ := e'
                have : s.set i (some (.lst .sh ps)) = s := by
                  refine List.ext_getElem? fun j => ?_
                  by_cases c : i = j
                  · subst c
                    simp only [getP, slG'] at e
                    split at e
                    · rename_i v hv
                      cases e
                      rw [List.getElem?_set_self (List.getElem?_eq_some_iff.mp hv).1, hv]
                    · cases e
                  · rw [List.getElem?_set_ne c]
                rw [this]
                exact ⟨M, rfl, a, Le.refl _ _, Tk.refl _ _, .f d, Fr.df d⟩
              | fl k f =>
                simp only [getP, obF] at e
                simp only [setP, setF'] at e'
                split at e
                · rename_i c fs hv
                  rw [hv] at e'
                  simp only [Option.map_some, Option.some.injEq, Prod.mk.injEq] at e'
                  obtain ⟨rfl, rfl⟩ := e'
                  have e1 : vfput f (.lst .sh ps) fs = fs := by
                    clear hv
                    induction fs with
                    | nil => cases e
                    | cons z r ih =>
                      obtain ⟨g, y⟩ := z
                      rw [List.lookup_cons] at e
                      rw [vfput]
                      by_cases h : g = f
                      · subst h
                        simp at e
                        rw [if_pos rfl, e]
                      · have : (f == g) = false := by simpa using (Ne.symm h)
                        rw [this] at e
                        rw [if_neg h, ih e]
                  have e2 : w.H.ob.set k (.ins c fs) = w.H.ob := by
                    refine List.ext_getElem? fun j => ?_
                    by_cases cc : k = j
                    · subst cc
                      rw [List.getElem?_set_self (List.getElem?_eq_some_iff.mp hv).1, hv]
                    · rw [List.getElem?_set_ne cc]
                  have e3 : (⟨w.d, w.H.upd0 k (.ins c (vfput f (.lst .sh ps) fs)) 0⟩ : W) = w := by
                    rw [e1]
                    unfold VH.upd0
                    rw [e2]
                    rfl
                  rw [e3]
                  exact ⟨M, rfl, a, Le.refl _ _, Tk.refl _ _, .f d, Fr.df d⟩
                · cases e
              | en k f =>
                have hv' := e
                simp only [getP, obE] at e
                simp only [setP, setE'] at e'
                split at e
                · rename_i fs hv
                  rw [hv] at e'
                  simp only [Option.map_some, Option.some.injEq, Prod.mk.injEq] at e'
                  obtain ⟨rfl, rfl⟩ := e'
                  obtain ⟨_, gs, _, _, _, hgd, nd⟩ := a.s.hp.dct hv
                  clear hgd
                  have e1 : vput fs f (.lst .sh ps) = fs := by
                    clear hv
                    induction fs with
                    | nil => cases e
                    | cons z r ih =>
                      obtain ⟨g, y⟩ := z
                      rw [vget_cons] at e
                      rw [vput_cons _ _ _ _ _ (by simpa using nd)]
                      simp only [List.map_cons, List.nodup_cons] at nd
                      by_cases h : g = f
                      · rw [if_pos h] at e ⊢
                        cases e
                        rfl
                      · rw [if_neg h] at e ⊢
                        rw [ih e nd.2]
                  have e2 : w.H.ob.set k (.dct fs) = w.H.ob := by
                    refine List.ext_getElem? fun j => ?_
                    by_cases cc : k = j
                    · subst cc
                      rw [List.getElem?_set_self (List.getElem?_eq_some_iff.mp hv).1, hv]
                    · rw [List.getElem?_set_ne cc]
                  have e3 : (⟨w.d, w.H.upd0 k (.dct (vput fs f (.lst .sh ps))) 0⟩ : W) = w := by
                    rw [e1]
                    unfold VH.upd0
                    rw [e2]
                    rfl
                  rw [e3]
                  exact ⟨M, rfl, a, Le.refl _ _, Tk.refl _ _, .f d, Fr.df d⟩
                · cases e
        | _ => trivial
    · simp only []
      rw [if_neg hk]
      trivial
theorem lEK_ok {γ δ : Type} {rel : MS → MS → W → δ → γ → Prop} {b : Nat} {M0 M : MS} {w0 w : W} {s : VSl} {st : Sl} {r : RL} {u : Val} {K : PV → VSl → W → VR δ} {F : Val → Hs → R γ} (a : At b M0 w0 s w st M) (rr : RR M st w r u) (fr : FrR M0 r u)
    (h : ∀ x s' w' M', M'.h = M.h → At b M0 w0 s' w' st M' → Le b M M' → Tk w M w' M' → DO M' .tmp x u → Fr M0 x u → PX rel b st M0 w0 (F u M'.h) (K x s' w')) : PX rel b st M0 w0 (F u M.h) (lEK K r s w) := by
  have := esc_ok a rr fr
  unfold lEK
  cases e : lE r s w with
  | stk => trivial
  | exc _ _ _ _ => rw [e] at this; exact this.elim
  | ok x s' w' =>
    rw [e] at this
    obtain ⟨M', hh, a', l', k', d, f⟩ := this
    have := h x s' w' M' hh a' l' k' d f
    rw [hh] at this
    exact this
end MP

set_option Elab.async false
set_option linter.all false
set_option maxRecDepth 100000
set_option maxHeartbeats 4000000
set_option autoImplicit false
/-! VEh: the steps of expressions. -/
namespace MP
open PySem PySem.Spec L2
/-- a call's result, for a callee at depth b -/
def PC (b : Nat) (M : MS) (w : W) (mp : R Val) (vc : VC) : Prop := match vc with
  | .stk => True
  | .ok v w' => ∃ u M', mp = .ok u M'.h ∧ Le b M M' ∧ Tk w M w' M' ∧ HOK M' w' ∧ DO M' .tmp v u ∧ Fr M v u
  | .exc c vs w' => ∃ us M', mp = .exc c us M'.h ∧ Le b M M' ∧ Tk w M w' M' ∧ HOK M' w' ∧ DFs M' vs us
structure CallsOK (C : Calls) (V : VCl) : Prop where
  f : ∀ (f : Nat) (vs : List PV) (us : List Val) (w : W) (M : MS) (b : Nat), HOK M w → DFs M vs us → PC b M w (C.f f us M.h) (V.f f vs w)
  i : ∀ (f : Nat) (vs : List PV) (us : List Val) (w : W) (M : MS) (b : Nat), HOK M w → DFs M vs us → PC b M w (C.i f us M.h) (V.i f vs w)
  tk : ∀ (t : Nat) (d : DS) (many : Int) (r : Hs), V.tk = some t → d.ok → 0 < many → many ≤ 10000000000000000 → C.f t [.ref 2, .int many] (d.hs ++ r) = .ok (.int (takeS d many).1) ((takeS d many).2.hs ++ r)
  meth : V.meth = C.meth
  init : V.init = C.init
  glob : V.glob = C.glob
  fld : V.fldok = C.fldok
theorem Sim.call {b : Nat} {s : VSl} {w w' : W} {st : Sl} {M M' : MS} (sim : Sim b s w st M) (l : Le (b + 1) M M') (hp : HOK M' w') : Sim b s w' st M' :=
  ⟨hp, sim.len, fun i p e => by
    obtain ⟨v, h1, h2⟩ := sim.sl i p e
    refine ⟨v, h1, ?_⟩
    cases h2 with
    | f d => exact .f (l.df d)
    | l t1 t2 d =>
      obtain ⟨a1, a2⟩ := l.sl _ b i (lt_of t2) t1 (Nat.lt_succ_self b)
      exact .l a1 (by rw [a2]; exact t2) (l.dfs d)⟩
section
variable {b : Nat} {M0 M M1 : MS} {w0 w w1 : W} {s s1 : VSl} {st : Sl} {C : Calls} {V : VCl}
theorem PC.px (a : At b M0 w0 s w st M) {mp : R Val} {vc : VC} (p : PC (b + 1) M w mp vc) : PX (relR st) b st M0 w0 mp (ofC vc s) := by
  cases vc with
  | stk => trivial
  | exc c vs w' =>
    obtain ⟨us, M', rfl, l, k, hp, d⟩ := p
    have l' := l.down (Nat.le_succ b)
    exact ⟨us, M', rfl, a.l.trans l', Tk.trans a.l l' a.k k, a.s.call l hp, d⟩
  | ok v w' =>
    obtain ⟨u, M', rfl, l, k, hp, d, f⟩ := p
    have l' := l.down (Nat.le_succ b)
    exact ⟨u, M', rfl, a.l.trans l', Tk.trans a.l l' a.k k, a.s.call l hp, d, Fr.back a.l f⟩
/-- the draw -/
theorem draw_ok (hC : CallsOK C V) (a : At b M0 w0 s w st M) {t : Nat} (ht : V.tk = some t) {vs : List PV} {us : List Val} (d : DFs M vs us) : PX (relR st) b st M0 w0 (C.f t us M.h) (drawX vs s w) := by
  unfold drawX
  split
  · rename_i many
    split
    · rename_i hm
      obtain ⟨h1, h2⟩ := hm
      cases d with
      | cons d1 d2 =>
        cases d1
        cases d2 with
        | cons d3 d4 =>
          cases d3
          cases d4
          obtain ⟨r, hr⟩ := a.s.hp.dr
          have e := hC.tk t w.d.1 many r ht w.d.2 h1 h2
          have hmm : tkM many = many := by unfold tkM; rw [if_pos h1]
          have ev : (takeO w.d many).1 = (takeS w.d.1 many).1 := by show (takeS w.d.1 (tkM many)).1 = _; rw [hmm]
          have ed : (takeO w.d many).2.1 = (takeS w.d.1 many).2 := by show (takeS w.d.1 (tkM many)).2 = _; rw [hmm]
          obtain ⟨_, _, _, ks, kc⟩ := takeS_ok w.d.2 h1
          rw [hr, e]
          have K : Keep (fun t => t ≠ .drw) M ⟨(takeS w.d.1 many).2.hs ++ r, M.mu, M.ow⟩ := by
            refine ⟨by rw [hr]; simp [DS.hs], fun _ _ h => h, fun n hn ht => ⟨rfl, ?_⟩⟩
            by_cases c : n < 3
            · exact absurd (a.s.hp.o2 n c) ht
            · show ((takeS w.d.1 many).2.hs ++ r)[n]? = M.h[n]?
              rw [hr, List.getElem?_append_right (by simp [DS.hs]; omega), List.getElem?_append_right (by simp [DS.hs]; omega)]
              rfl
          have dr' : ∃ r', (⟨(takeS w.d.1 many).2.hs ++ r, M.mu, M.ow⟩ : MS).h = (takeO w.d many).2.1.hs ++ r' := ⟨r, by rw [ed]⟩
          refine ⟨_, ⟨(takeS w.d.1 many).2.hs ++ r, M.mu, M.ow⟩, rfl, a.l.trans (K.le fun t h => ?_), Tk.trans a.l (K.le (b := b) fun t h => ?_) a.k ⟨Nat.le_refl _, fun _ n hn ho => (K.at_ n hn (by rw [ho]; simp)).2, Nat.le_refl _, fun _ n q hn _ ho => ⟨(K.at_ n hn (by rw [ho]; simp)).2, .inl ho⟩⟩, ?_, ?_, ?_⟩
          · rcases h with h | h | h | ⟨_, _, h, _⟩ <;> rw [h] <;> simp
          · rcases h with h | h | h | ⟨_, _, h, _⟩ <;> rw [h] <;> simp
          · have hp' : HOK ⟨(takeS w.d.1 many).2.hs ++ r, M.mu, M.ow⟩ ⟨(takeO w.d many).2, w.H⟩ := by
              refine ⟨dr', a.s.hp.o2, a.s.hp.ml, a.s.hp.mi, fun k o e => ?_⟩
              obtain ⟨n, g1, g2, g3⟩ := a.s.hp.ob k o e
              exact ⟨n, g1, g2, g3.keep K (by simp) ((K.at_ n (obd_lt g3) (by rw [g2]; simp)).2) fun q _ => by simp⟩
            exact ⟨hp', a.s.len, fun i p e => by
              obtain ⟨v, g1, g2⟩ := a.s.sl i p e
              exact ⟨v, g1, g2.keep K (by simp) (by simp)⟩⟩
          · rw [ev]; exact .f (.int _)
          · show Fr M0 (.int _) (.int _)
            rw [ev]
            exact Fr.df (M1 := M) (.int _)
    · trivial
  · trivial
theorem shrs_at (a : At b M0 w0 s w st M) {ps : List PV} {us : List Val} (d : DOs M .tmp ps us) (f : FrS M0 ps us) : ∃ M', M'.h = M.h ∧ At b M0 w0 s w st M' ∧ Keep (fun t => t ≠ .tmp) M M' ∧ DFs M' (ps.map PV.shr) us := by
  obtain ⟨M', hh, l, k, sim, ds, K⟩ := shrs a.l a.s d f
  exact ⟨M', hh, ⟨l, Tk.trans0 a.l (fun n hn e => by rw [← e]; exact K.at_ n hn (by rw [e]; simp)) a.k k, sim⟩, K, ds⟩
theorem shr1_at (a : At b M0 w0 s w st M) {p : PV} {u : Val} (d : DO M .tmp p u) (f : Fr M0 p u) : ∃ M', M'.h = M.h ∧ At b M0 w0 s w st M' ∧ Keep (fun t => t ≠ .tmp) M M' ∧ DF M' p.shr u := by
  obtain ⟨M', hh, l, k, sim, ds, K⟩ := shr1 a.l a.s d f
  exact ⟨M', hh, ⟨l, Tk.trans0 a.l (fun n hn e => by rw [← e]; exact K.at_ n hn (by rw [e]; simp)) a.k k, sim⟩, K, ds⟩
theorem call_ok (hC : CallsOK C V) (a : At b M0 w0 s w st M) {f : Nat} {ps : List PV} {us : List Val} (d : DOs M .tmp ps us) (fr : FrS M0 ps us) : PX (relR st) b st M0 w0 (C.f f us M.h) (callX V f ps s w) := by
  unfold callX
  split
  · rename_i ht
    obtain ⟨M', hh, a', K, ds⟩ := shrs_at a d fr
    have e : drawX ps s w = drawX (ps.map PV.shr) s w ∨ drawX ps s w = .stk := by
      rcases ps with _ | ⟨p, _ | ⟨q, _ | _⟩⟩
      · exact .inr rfl
      · exact .inr (by cases p <;> rfl)
      · cases p <;> first | exact .inr rfl | skip
        cases q <;> first | exact .inr rfl | exact .inl rfl
      · exact .inr (by cases p <;> first | rfl | (cases q <;> rfl))
    rcases e with e | e
    · rw [e, ← hh]
      exact draw_ok hC a' ht ds
    · rw [e]; trivial
  · obtain ⟨M', hh, a', K, ds⟩ := shrs_at a d fr
    have p := hC.f f _ us w M' (b + 1) a'.s.hp ds
    rw [hh] at p
    exact PC.px a' p
theorem dref_inv {k : Nat} {u : Val} (d : DL M (.ref k) u) : ∃ n, u = .ref n ∧ M.mu[k]? = some n := d.r
/-- a method of an object -/
theorem meth_ok (hC : CallsOK C V) (a : At b M0 w0 s w st M) {m : Nat} {x : PV} {u : Val} {fes : Hs → R (List Val)} {ves : VSl → W → VR (List PV)} (d : DL M x u)
    (ih : ∀ {s1 w1 M1}, Sim b s1 w1 st M1 → PX relS b st M1 w1 (fes M1.h) (ves s1 w1)) : PX (relR st) b st M0 w0 (methF C m fes u M.h) (methX V m ves x s w) := by
  cases x with
  | ref k =>
    obtain ⟨n, rfl, hn⟩ := d.r
    unfold methX
    simp only []
    unfold methX1
    split
    · rename_i c fs hv
      obtain ⟨n', gs, a1, a2, a3, a4, a5⟩ := a.s.hp.ins hv
      rw [hn] at a1
      cases a1
      split
      · rename_i i hi
        rw [hC.meth] at hi
        split
        · rename_i hno
          have q : gs.lookup m = none := lookup_n a4 (by simpa using hno)
          unfold methF
          simp only [a3, hi]
          rw [if_pos (by unfold fget; rw [q]; rfl)]
          refine PX.bind a (ih a.s) fun ps s1 w1 us M1 a1 l1 k1 ⟨ds, fr, _⟩ => ?_
          unfold methX2
          split
          · trivial
          · obtain ⟨M2, hh, a2', K, ds2⟩ := shrs_at a1 ds (fr.back a.l)
            have hn2 : M2.mu[k]? = some n := K.mu _ _ (l1.mu _ _ hn)
            have p := hC.f i (.ref k :: ps.map PV.shr) (.ref n :: us) w1 M2 (b + 1) a2'.s.hp (.cons (.ref hn2) ds2)
            unfold methK
            rw [hh] at p
            exact PC.px a2' p
        · trivial
      · trivial
    · trivial
  | _ => trivial
/-! new objects -/
def MS.newO (M : MS) (o : Ob) : MS := ⟨M.h ++ [o], M.mu ++ [M.h.length], fun n => if n = M.h.length then .obj else M.ow n⟩
theorem newO_keep {o : Ob} : Keep (fun _ => True) M (M.newO o) := ⟨by simp [MS.newO], fun k n h => by
    show (M.mu ++ [M.h.length])[k]? = some n
    rw [List.getElem?_append_left (List.getElem?_eq_some_iff.mp h).1]
    exact h, fun n hn _ => by
  refine ⟨?_, ?_⟩
  · show (if n = M.h.length then _ else M.ow n) = M.ow n
    rw [if_neg (by omega)]
  · show (M.h ++ [o])[n]? = _
    rw [List.getElem?_append_left hn]⟩
theorem HOK.newO (hp : HOK M w) {o : Ob} {v : VOb} (d : ObD (M.newO o) w.H.ob.length M.h.length v) : HOK (M.newO o) ⟨w.d, w.H.add v⟩ := by
  have K := newO_keep (M := M) (o := o)
  have l3 : 3 ≤ M.h.length := by
    obtain ⟨x, e⟩ := hp.dr
    rw [e, List.length_append]
    have : w.d.1.hs.length = 3 := rfl
    omega
  have mlt : ∀ k n : Nat, M.mu[k]? = some n → n < M.h.length := fun k n h => by
    have hk : k < w.H.ob.length := by rw [← hp.ml]; exact (List.getElem?_eq_some_iff.mp h).1
    obtain ⟨n', g1, _, g3⟩ := hp.ob k _ (List.getElem?_eq_getElem hk)
    rw [h] at g1
    cases g1
    exact obd_lt g3
  refine ⟨?_, fun n hn => ?_, ?_, fun i j n h1 h2 => ?_, fun k o' e => ?_⟩
  · obtain ⟨r, e⟩ := hp.dr
    exact ⟨r ++ [o], by show M.h ++ [o] = _; rw [e, List.append_assoc]⟩
  · rw [(K.at_ n (by omega) trivial).1]; exact hp.o2 n hn
  · show (M.mu ++ [M.h.length]).length = (w.H.ob ++ [v]).length
    simp [hp.ml]
  · have key : ∀ i : Nat, (M.mu ++ [M.h.length])[i]? = some n → (M.mu[i]? = some n) ∨ (i = M.mu.length ∧ n = M.h.length) := fun i h => by
      by_cases c : i < M.mu.length
      · rw [List.getElem?_append_left c] at h; exact .inl h
      · rw [List.getElem?_append_right (by omega)] at h
        have hl := (List.getElem?_eq_some_iff.mp h).1
        simp at hl
        have : i - M.mu.length = 0 := by omega
        rw [this] at h
        simp at h
        exact .inr ⟨by omega, h.symm⟩
    rcases key i h1 with c1 | ⟨c1, c1'⟩ <;> rcases key j h2 with c2 | ⟨c2, c2'⟩
    · exact hp.mi i j n c1 c2
    · have := mlt i n c1; omega
    · have := mlt j n c2; omega
    · omega
  · have e' : (w.H.ob ++ [v])[k]? = some o' := e
    by_cases c : k < w.H.ob.length
    · rw [List.getElem?_append_left c] at e'
      obtain ⟨n, g1, g2, g3⟩ := hp.ob k o' e'
      obtain ⟨a1, a2⟩ := K.at_ n (obd_lt g3) trivial
      exact ⟨n, K.mu _ _ g1, by rw [a1]; exact g2, g3.keep K trivial a2 fun _ _ => trivial⟩
    · have hl := (List.getElem?_eq_some_iff.mp e').1
      simp at hl
      have hk : k = w.H.ob.length := by omega
      subst hk
      simp at e'
      subst e'
      refine ⟨M.h.length, ?_, by simp [MS.newO], d⟩
      show (M.mu ++ [M.h.length])[w.H.ob.length]? = _
      rw [← hp.ml]
      simp
theorem At.newO (a : At b M0 w0 s w st M) {o : Ob} {v : VOb} (d : ObD (M.newO o) w.H.ob.length M.h.length v) : At b M0 w0 s ⟨w.d, w.H.add v⟩ st (M.newO o) := by
  have K := newO_keep (M := M) (o := o)
  refine a.next (K.le fun _ _ => trivial) ⟨Nat.le_refl _, fun _ n hn _ => (K.at_ n hn trivial).2, Nat.le_refl _, fun _ n q hn _ h => ⟨(K.at_ n hn trivial).2, .inl ((K.at_ n hn trivial).1.trans h)⟩⟩ ⟨a.s.hp.newO d, a.s.len, fun i p e => ?_⟩
  obtain ⟨u, g1, g2⟩ := a.s.sl i p e
  exact ⟨u, g1, g2.keep K trivial trivial⟩
theorem new_ok (hC : CallsOK C V) (a : At b M0 w0 s w st M) {c : Nat} {ps : List PV} {us : List Val} (d : DOs M .tmp ps us) (fr : FrS M0 ps us) : PX (relR st) b st M0 w0 (newF C c us M.h) (newX V c ps s w) := by
  unfold newX newF
  rw [hC.init]
  cases q : C.init c with
  | none => trivial
  | some i =>
    simp only []
    obtain ⟨M', hh, a', K, ds⟩ := shrs_at a d fr
    have a2 : At b M0 w0 s ⟨w.d, w.H.add (.ins c [])⟩ st (M'.newO (.ins c [])) := a'.newO ⟨[], by simp [MS.newO], .nil, by simp⟩
    have hm : (M'.newO (.ins c [])).mu[w.H.ob.length]? = some M'.h.length := by
      show (M'.mu ++ [M'.h.length])[w.H.ob.length]? = _
      rw [← a'.s.hp.ml]
      simp
    have p := hC.i i (.ref w.H.ob.length :: ps.map PV.shr) (.ref M'.h.length :: us) ⟨w.d, w.H.add (.ins c [])⟩ (M'.newO (.ins c [])) (b + 1) a2.s.hp (.cons (.ref hm) (DFs.keep newO_keep trivial _ _ ds))
    have p' : PC (b + 1) (M'.newO (.ins c [])) ⟨w.d, w.H.add (.ins c [])⟩ (C.i i (.ref M.h.length :: us) (M.h ++ [.ins c []])) (V.i i (.ref w.H.ob.length :: ps.map PV.shr) ⟨w.d, w.H.add (.ins c [])⟩) := by
      rw [← hh]; exact p
    cases vq : V.i i (.ref w.H.ob.length :: ps.map PV.shr) ⟨w.d, w.H.add (.ins c [])⟩ with
    | stk => trivial
    | exc c2 vs w2 =>
      rw [vq] at p'
      obtain ⟨us2, M2, e, l, k, hp, d2⟩ := p'
      rw [e]
      have l' := l.down (Nat.le_succ b)
      exact ⟨us2, M2, rfl, a2.l.trans l', Tk.trans a2.l l' a2.k k, a2.s.call l hp, d2⟩
    | ok v w2 =>
      rw [vq] at p'
      obtain ⟨u, M2, e, l, k, hp, d2, f2⟩ := p'
      cases v with
      | non =>
        have : u = .non := d2.dl.n
        subst this
        rw [e]
        have l' := l.down (Nat.le_succ b)
        refine ⟨_, M2, rfl, a2.l.trans l', Tk.trans a2.l l' a2.k k, a2.s.call l hp, ?_, ?_⟩
        · rw [← hh]; exact .f (.ref (l.mu _ _ hm))
        · intro n hn; cases hn
      | _ => trivial
end
end MP

set_option Elab.async false
set_option linter.all false
set_option maxRecDepth 100000
set_option maxHeartbeats 4000000
set_option autoImplicit false
/-! VEi: lists and dicts that change; sources; comprehensions. -/
namespace MP
open PySem PySem.Spec L2
section
variable {b : Nat} {M0 M M1 : MS} {w0 w w1 : W} {s s1 : VSl} {st : Sl} {C : Calls} {V : VCl}
theorem RR.same {u : Val} {M' : MS} (hh : M'.h = M.h) (hm : ∀ k n : Nat, M.mu[k]? = some n → M'.mu[k]? = some n) {q : Pl} {t : Nat} (h : RR M st w (.p q t) u) : RR M' st w (.p q t) u := by
  cases q with
  | sl i => exact h
  | fl k f =>
    refine ⟨h.1, fun e => ?_⟩
    obtain ⟨n, c, gs, a1, a2, a3⟩ := h.2 e
    exact ⟨n, c, gs, hm _ _ a1, by rw [hh]; exact a2, a3⟩
  | en k f =>
    refine ⟨h.1, fun e => ?_⟩
    obtain ⟨n, gs, a1, a2, a3⟩ := h.2 e
    exact ⟨n, gs, hm _ _ a1, by rw [hh]; exact a2, a3⟩
theorem mut_fin (a : At b M0 w0 s w st M) {q : Pl} {t : Nat} {u : Val} {xs : List PV} (rr : RR M st w (.p q t) u) (hk : okT q t w = true) (e : getP q s w = some (.lst .ow xs)) {v : PV} {xs' : List PV} {mp : R Val}
    (h : ∀ n vs, u = .ref n → M.h[n]? = some (.lst vs) → DFs M xs vs → ∃ vs' tv, mp = .ok tv (M.h.set n (.lst vs')) ∧ DFs M xs' vs' ∧ DF M v tv) : PX (relR st) b st M0 w0 mp (setR q (some (v, xs')) s w) := by
  unfold setR
  cases e' : setP q (.lst .ow xs') 1 s w with
  | none => simp only [e']; trivial
  | some sw =>
    obtain ⟨s', w'⟩ := sw
    simp only [e']
    obtain ⟨n, vs, rfl, h1, h2, dv, F⟩ := a.s.place rr hk e e'
    obtain ⟨vs', tv, rfl, d1, d2⟩ := h n vs rfl h2 dv
    obtain ⟨sim, le, tk, dv', _⟩ := F vs' d1 (fun h => absurd h (by decide)) (fun _ => rfl)
    refine ⟨tv, _, rfl, a.l.trans le, Tk.trans a.l le a.k tk, sim, .f (le.df d2), Fr.df d2⟩
theorem ldAll_ok (a : At b M0 w0 s w st M) : ∀ {rs : List RL} {us : List Val} {xs : List PV}, RRs M st w rs us → ldAll rs s w = some xs → DLs M xs us
  | [], _, _, .nil, e => by cases e; exact .nil
  | r :: rs, _, xs, .cons r1 r2, e => by
    unfold ldAll at e
    split at e
    · rename_i x ys h1 h2
      cases e
      exact .cons (a.s.ldB r1 h1) (ldAll_ok a r2 h2)
    · cases e
theorem RRs.mono {rs : List RL} {us : List Val} (sim : Sim b s w st M) (l : Le b M M1) (k : Tk w M w1 M1) (h : RRs M st w rs us) : RRs M1 st w1 rs us := by
  induction h with
  | nil => exact .nil
  | cons r _ ih => exact .cons (RR.mono sim l k r) ih
/-- append, pop -/
theorem mutX_ok (a : At b M0 w0 s w st M) {p : PM} {q : Pl} {t : Nat} {u : Val} {ps : List PV} {us : List Val} (hp : p ≠ .extend) (rr : RR M st w (.p q t) u) (d : DOs M .tmp ps us) (fr : FrS M0 ps us) : PX (relR st) b st M0 w0 (pmF p u us M.h) (mutX p q t ps s w) := by
  unfold mutX
  by_cases hk : okT q t w = true
  · rw [if_pos hk]
    obtain ⟨M', hh, a', K, ds⟩ := shrs_at a d fr
    have rr' : RR M' st w (.p q t) u := rr.same hh K.mu
    unfold mutX2
    split
    · rename_i xs e
      cases f : appV p xs ps with
      | none => unfold setR; trivial
      | some vx =>
        obtain ⟨v, xs'⟩ := vx
        rw [← hh]
        refine mut_fin a' rr' hk e fun n vs hu hn dv => ?_
        subst hu
        unfold appV at f
        split at f
        · rename_i v0
          split at f
          · rename_i hl
            cases f
            cases ds with
            | cons d1 d2 =>
              cases d2
              rw [dv.len] at hl
              exact ⟨_, .non, by simp only [pmF, hn]; rw [if_pos hl], dv.app (.cons d1 .nil), .non⟩
          · cases f
        · exact absurd rfl hp
        · exact absurd rfl hp
        · cases ds
          split at f
          · rename_i v0 hl
            cases f
            obtain ⟨tv, g1, g2, g3⟩ := dv.last hl
            exact ⟨_, tv, by simp only [pmF, hn, g1], g3, g2⟩
          · cases f
        · cases f
    · trivial
  · rw [if_neg hk]; trivial
theorem extX_ok (a : At b M0 w0 s w st M) {q : Pl} {t : Nat} {u : Val} {rs : List RL} {us : List Val} (rr : RR M st w (.p q t) u) (d : RRs M st w rs us) : PX (relR st) b st M0 w0 (pmF .extend u us M.h) (extX q t rs s w) := by
  unfold extX
  cases f : ldAll rs s w with
  | none => trivial
  | some ps =>
    have D := ldAll_ok a d f
    simp only []
    unfold mutX
    by_cases hk : okT q t w = true
    · rw [if_pos hk]
      unfold mutX2
      split
      · rename_i xs e
        cases f : appV .extend xs ps with
        | none => unfold setR; trivial
        | some vx =>
          obtain ⟨v, xs'⟩ := vx
          refine mut_fin a rr hk e fun n vs hu hn dv => ?_
          subst hu
          rcases ps with _ | ⟨y, _ | ⟨y2, r⟩⟩
          · cases f
          · cases y with
            | lst o ys =>
              simp only [appV] at f
              split at f
              · rename_i hl
                cases f
                obtain ⟨v0, rfl, d1⟩ := D.one
                obtain ⟨m, ws, rfl, hm, dw⟩ := d1.ls
                rw [dv.len, dw.len] at hl
                exact ⟨_, .non, by simp only [pmF, hn, hm]; rw [if_pos hl], dv.app dw, .non⟩
              · cases f
            | tup ys =>
              simp only [appV] at f
              split at f
              · rename_i hl
                cases f
                obtain ⟨v0, rfl, d1⟩ := D.one
                obtain ⟨ws, rfl, dw⟩ := d1.t
                rw [dv.len, dw.len] at hl
                exact ⟨_, .non, by simp only [pmF, hn]; rw [if_pos hl], dv.app dw, .non⟩
              · cases f
            | _ => cases f
          · cases y <;> cases f
      · trivial
    · rw [if_neg hk]; trivial
/-! an object changed -/
theorem put_obj_keep {n : Nat} {g : Ob} (ho : M.ow n = .obj) : Keep (fun t => t ≠ .obj) M (M.put n g .obj) := put_keep (by rw [ho]; simp)
theorem put_obj_le {n : Nat} {g : Ob} (ho : M.ow n = .obj) : Le b M (M.put n g .obj) := by
  have K := put_obj_keep (g := g) ho
  refine ⟨K.len, K.mu, fun m hm e => ?_, fun m hm e => ?_, fun m hm e => ?_, fun m e' i hm ht he => ?_⟩
  · rw [← e]; exact K.at_ m hm (by rw [e]; simp)
  · rw [← e]; exact K.at_ m hm (by rw [e]; simp)
  · show (if m = n then Tag.obj else M.ow m) = .obj
    split <;> first | rfl | exact e
  · rw [← ht]; exact K.at_ m hm (by rw [ht]; simp)
theorem obj_upd (a : At b M0 w0 s w st M) {k n : Nat} {o0 o' : VOb} {g : Ob} (hk : M.mu[k]? = some n) (h0 : w.H.ob[k]? = some o0) (d : ObD (M.put n g .obj) k n o') : At b M0 w0 s ⟨w.d, w.H.upd k o'⟩ st (M.put n g .obj) := by
  obtain ⟨n', g1, ho, g3⟩ := a.s.hp.ob k o0 h0
  rw [hk] at g1
  cases g1
  have K := put_obj_keep (g := g) ho
  have le : Le b M (M.put n g .obj) := put_obj_le ho
  have tk : Tk w M ⟨w.d, w.H.upd k o'⟩ (M.put n g .obj) := ⟨Nat.le_succ _, fun e => absurd e (by show w.H.t + 1 ≠ w.H.t; omega), Nat.le_refl _, fun _ m q hm _ h => ⟨(K.at_ m hm (by rw [h]; simp)).2, .inl ((K.at_ m hm (by rw [h]; simp)).1.trans h)⟩⟩
  refine a.next le tk ⟨a.s.hp.upd K (by simp) (by simp) (dr_put a.s.hp.dr (a.s.hp.obj3 ho)) rfl hk rfl (fun m hm hm2 => ⟨?_, fun hne => ?_⟩) (fun q j _ _ => by simp) (fun _ => d), a.s.len, fun i p e => ?_⟩
  · show (if m = n then Tag.obj else M.ow m) = .obj
    split <;> first | rfl | exact hm2
  · show (M.h.set n g)[m]? = _
    rw [List.getElem?_set_ne (Ne.symm hne)]
  · obtain ⟨v, c1, c2⟩ := a.s.sl i p e
    exact ⟨v, c1, c2.keep K (by simp) (by simp)⟩
theorem GD.del {mk : Ky → Pl} {key : Ky} : ∀ {r : List (Ky × PV)} {s : List (Ky × Val)}, GD M mk r s → GD M mk (vdel r key) (ddel s key)
  | _, _, .nil => .nil
  | _, _, .cons (f := g) d ds => by
    unfold vdel ddel
    by_cases h : g = key
    · rw [List.filter_cons_of_neg (by simpa using h), List.filter_cons_of_neg (by simpa using h)]
      exact GD.del ds
    · rw [List.filter_cons_of_pos (by simpa using h), List.filter_cons_of_pos (by simpa using h)]
      exact .cons d (GD.del ds)
theorem vdel_nd {kvs : List (Ky × PV)} (key : Ky) (h : (kvs.map (·.1)).Nodup) : ((vdel kvs key).map (·.1)).Nodup := by
  unfold vdel
  exact List.Sublist.nodup ((List.filter_sublist (l := kvs)).map _) h
theorem dpop_ok (a : At b M0 w0 s w st M) {k n : Nat} {ps : List PV} {us : List Val} (hn : M.mu[k]? = some n) (d : DOs M .tmp ps us) (fr : FrS M0 ps us) : PX (relR st) b st M0 w0 (pmF .dpop (.ref n) us M.h) (dpopX k ps s w) := by
  unfold dpopX
  split
  · rename_i x
    split
    · rename_i kvs key hv hkey
      obtain ⟨n', gs, a1, a2, a3, a4, a5⟩ := a.s.hp.dct hv
      rw [hn] at a1
      cases a1
      obtain ⟨uv, rfl, d1⟩ : ∃ uv, us = [uv] ∧ DO M .tmp x uv := by
        cases d with
        | cons d1 d2 => cases d2; exact ⟨_, rfl, d1⟩
      · have ky := toKy_P d1.dl hkey
        unfold dpopK
        cases q : vget kvs key with
        | none => trivial
        | some p =>
          simp only []
          split
          · rename_i hsh
            obtain ⟨tv, g1, g2⟩ := vget_g a4 q
            have hno : isOw p = false := by rw [hsh]; cases p <;> rfl
            have dp := g2.sh hno
            have K := put_obj_keep (M := M) (g := .dct (ddel gs key)) a2
            have A := obj_upd (o' := .dct (vdel kvs key)) (g := .dct (ddel gs key)) a hn hv ⟨ddel gs key, put_at (lt_of a3), (a4.del).keep K (by simp) fun _ _ => by simp, vdel_nd key a5⟩
            have e : pmF .dpop (.ref n) [uv] M.h = .ok tv (M.put n (.dct (ddel gs key)) .obj).h := by
              simp only [pmF, a3]
              rw [ky]
              simp only [g1]
              rfl
            rw [e]
            exact PX.val A (DF.keep K (by simp) _ _ dp)
          · trivial
    · trivial
  · trivial
/-! reading -/
theorem fld_ok (a : At b M0 w0 s w st M) {f : Nat} {x : PV} {u : Val} (d : DL M x u) : PX (relR st) b st M0 w0 (fldG f u M.h) (fldX f x s w) := by
  cases x with
  | ref k =>
    obtain ⟨n, rfl, hn⟩ := d.r
    unfold fldX
    simp only []
    cases e : obF f w.H.ob[k]? with
    | none => trivial
    | some v =>
      unfold obF at e
      split at e
      · rename_i c fs hv
        obtain ⟨n', gs, a1, a2, a3, a4, a5⟩ := a.s.hp.ins hv
        rw [hn] at a1
        cases a1
        obtain ⟨tv, g1, g2⟩ := lookup_g a4 e
        have em : fldG f (.ref n) M.h = .ok tv M.h := by
          simp only [fldG, fldF, a3]
          unfold fget
          rw [g1]
          rfl
        rw [em]
        unfold mkO mkR
        simp only []
        split
        · exact PX.ok a ⟨⟨Nat.le_refl _, fun _ => ⟨n, c, gs, hn, a3, g1⟩⟩, trivial⟩
        · rename_i hno
          exact PX.val a (g2.sh (by simpa using hno))
      · cases e
  | _ => trivial
theorem ix_ok (a : At b M0 w0 s w st M) {x y : PV} {u v : Val} (dx : DL M x u) (dy : DL M y v) : PX (relR st) b st M0 w0 (ixF u v M.h) (ixX x y s w) := by
  cases x with
  | str z =>
    cases y with
    | int i =>
      obtain rfl := dx.s; obtain rfl := dy.i
      unfold ixX
      simp only []
      refine PX.ofR a fun p e => ?_
      rw [Option.bind_eq_some_iff] at e
      obtain ⟨z', e1, e2⟩ := e
      obtain ⟨hl, rfl⟩ := limO_ok e1
      unfold chr1 at e2
      rw [Option.map_eq_some_iff] at e2
      obtain ⟨c, e3, rfl⟩ := e2
      exact .inl ⟨_, by simp only [ixF]; rw [if_pos hl, e3]; rfl, .str _⟩
    | _ => trivial
  | tup ps =>
    cases y with
    | int i =>
      obtain ⟨vs, rfl, dv⟩ := dx.t; obtain rfl := dy.i
      unfold ixX
      simp only []
      refine PX.ofR a fun p e => ?_
      obtain ⟨tv, g1, g2⟩ := dv.atI e
      exact .inl ⟨tv, by simp only [ixF]; rw [g1]; rfl, g2⟩
    | _ => trivial
  | lst o ps =>
    cases y with
    | int i =>
      obtain ⟨n, vs, rfl, hn, dv⟩ := dx.ls; obtain rfl := dy.i
      unfold ixX
      simp only []
      refine PX.ofR a fun p e => ?_
      obtain ⟨tv, g1, g2⟩ := dv.atI e
      exact .inl ⟨tv, by simp only [ixF, hn, ixL]; rw [g1]; rfl, g2⟩
    | _ => trivial
  | ref k =>
    obtain ⟨n, rfl, hn⟩ := dx.r
    have e0 : ixX (.ref k) y s w = ixK2 k (toKyV y) s w := by cases y <;> rfl
    rw [e0]
    cases qk : toKyV y with
    | none => trivial
    | some key =>
      have ky := toKy_P dy qk
      unfold ixK2
      simp only []
      cases e : obE key w.H.ob[k]? with
      | none => trivial
      | some p =>
        unfold obE at e
        split at e
        · rename_i fs hv
          obtain ⟨n', gs, a1, a2, a3, a4, a5⟩ := a.s.hp.dct hv
          rw [hn] at a1
          cases a1
          obtain ⟨tv, g1, g2⟩ := vget_g a4 e
          have em : ixF (.ref n) v M.h = .ok tv M.h := by
            simp only [ixF, a3]
            rw [ky]
            simp only []
            rw [g1]
            rfl
          rw [em]
          unfold mkO mkR
          simp only []
          split
          · exact PX.ok a ⟨⟨Nat.le_refl _, fun _ => ⟨n, gs, hn, a3, g1⟩⟩, trivial⟩
          · rename_i hno
            exact PX.val a (g2.sh (by simpa using hno))
        · cases e
  | non => cases y <;> trivial
  | bl _ => cases y <;> trivial
  | int _ => cases y <;> trivial
  | drw => cases y <;> trivial
/-! displays -/
theorem shr_map_noow (ps : List PV) : (ps.map PV.shr).length = ps.length := List.length_map _
theorem tup_ok (a : At b M0 w0 s w st M) {ps : List PV} {us : List Val} (d : DOs M .tmp ps us) (fr : FrS M0 ps us) : PX (relR st) b st M0 w0 (tupF us M.h) (tupX ps s w) := by
  obtain ⟨M', hh, a', K, ds⟩ := shrs_at a d fr
  rw [← hh]
  unfold tupX
  refine PX.ofR a' fun z e => ?_
  obtain ⟨hl, rfl⟩ := limO_ok e
  have := ds.len
  rw [List.length_map] at this
  rw [this] at hl
  exact .inl ⟨_, by simp only [tupF]; rw [if_pos hl], .tup ds⟩
theorem lst_ok (a : At b M0 w0 s w st M) {ps : List PV} {us : List Val} (d : DOs M .tmp ps us) (fr : FrS M0 ps us) : PX (relR st) b st M0 w0 (lstF us M.h) (lstX ps s w) := by
  obtain ⟨M', hh, a', K, ds⟩ := shrs_at a d fr
  rw [← hh]
  unfold lstX
  refine PX.ofR a' fun z e => ?_
  obtain ⟨hl, rfl⟩ := limO_ok e
  have := ds.len
  rw [List.length_map] at this
  rw [this] at hl
  exact .inr ⟨_, _, rfl, by simp only [lstF]; rw [if_pos hl], ds⟩
end
end MP

set_option Elab.async false
set_option linter.all false
set_option maxRecDepth 100000
set_option maxHeartbeats 4000000
set_option autoImplicit false
/-! VEj: dicts written out, sources, comprehensions, every expression. -/
namespace MP
open PySem PySem.Spec L2
section
variable {b : Nat} {M0 M M1 : MS} {w0 w w1 : W} {s s1 : VSl} {st : Sl} {C : Calls} {V : VCl}
/-! a temporary's tag changed -/
def MS.tag (M : MS) (o : Option Nat) (t : Tag) : MS := ⟨M.h, M.mu, fun n => if o = some n then t else M.ow n⟩
theorem tag_keep {o : Option Nat} {t : Tag} (h : ∀ n, o = some n → M.ow n = .tmp) : Keep (fun t => t ≠ .tmp) M (M.tag o t) := ⟨Nat.le_refl _, fun _ _ h => h, fun n hn hp => by
  refine ⟨?_, rfl⟩
  show (if o = some n then t else M.ow n) = M.ow n
  rw [if_neg fun e => hp (h n e)]⟩
theorem retag_le {M' : MS} (l : Le b M0 M) (hh : M'.h = M.h) (hm : M'.mu = M.mu) (h : ∀ n, M'.ow n ≠ M.ow n → M.ow n = .tmp ∧ (n < M0.h.length → M0.ow n ≠ .tmp)) : Le b M0 M' := by
  have key : ∀ n, M.ow n ≠ .tmp → M'.ow n = M.ow n := fun n hn => by
    by_cases c : M'.ow n = M.ow n
    · exact c
    · exact absurd (h n c).1 hn
  refine ⟨by rw [hh]; exact l.len, by rw [hm]; exact l.mu, fun n hn e => ?_, fun n hn e => ?_, fun n hn e => ?_, fun n e i hn ht he => ?_⟩
  · obtain ⟨a1, a2⟩ := l.fz n hn e
    exact ⟨(key n (by rw [a1]; simp)).trans a1, by rw [hh]; exact a2⟩
  · obtain ⟨a1, a2⟩ := l.tmp n hn e
    refine ⟨?_, by rw [hh]; exact a2⟩
    by_cases c : M'.ow n = M.ow n
    · rw [c]; exact a1
    · exact absurd e ((h n c).2 hn)
  · have a1 := l.obj n hn e
    exact (key n (by rw [a1]; simp)).trans a1
  · obtain ⟨a1, a2⟩ := l.sl n e i hn ht he
    exact ⟨(key n (by rw [a1]; simp)).trans a1, by rw [hh]; exact a2⟩
theorem At.retag (a : At b M0 w0 s w st M) {M' : MS} (hh : M'.h = M.h) (hm : M'.mu = M.mu) (K : Keep (fun t => t ≠ .tmp) M M') (h : ∀ n, M'.ow n ≠ M.ow n → M.ow n = .tmp ∧ (n < M0.h.length → M0.ow n ≠ .tmp)) : At b M0 w0 s w st M' := by
  refine ⟨retag_le a.l hh hm h, Tk.trans0 a.l (fun n hn e => by rw [← e]; exact K.at_ n hn (by rw [e]; simp)) a.k ⟨Nat.le_refl _, fun _ n hn _ => by rw [hh], Nat.le_refl _, fun _ n q hn _ ho => ⟨by rw [hh], .inl ((K.at_ n hn (by rw [ho]; simp)).1.trans ho)⟩⟩, ?_⟩
  exact a.s.keep K (by simp) (by simp) (by simp) (fun _ _ => by simp) (fun _ => by simp) (by rw [hh]; exact a.s.hp.dr) hm
theorem tag_do {t0 : Tag} {p : PV} {v : Val} (d : DO M .tmp p v) : DO (M.tag (cellO p v) t0) t0 p v := by
  have h : ∀ n, cellO p v = some n → M.ow n = .tmp := fun n e => cellO_tmp d e
  cases d with
  | f d => exact .f (DF.keep (tag_keep h) (by simp) _ _ d)
  | l h1 h2 d => exact .l (show (if cellO (.lst .ow _) (.ref _) = some _ then t0 else M.ow _) = t0 from if_pos rfl) h2 (DFs.keep (tag_keep h) (by simp) _ _ d)
theorem tag_ne {o : Option Nat} {t0 : Tag} (h : ∀ n, o = some n → M.ow n = .tmp) {p : PV} {v : Val} (d : DO M .tmp p v) (hne : ∀ n, cellO p v = some n → o ≠ some n) : DO (M.tag o t0) .tmp p v := by
  cases d with
  | f d => exact .f (DF.keep (tag_keep h) (by simp) _ _ d)
  | l h1 h2 d => exact .l (show (if o = some _ then t0 else M.ow _) = .tmp from (if_neg (hne _ rfl)).trans h1) h2 (DFs.keep (tag_keep h) (by simp) _ _ d)
/-! dicts written out -/
inductive PD (M : MS) : List (Ky × PV) → List (Ky × Val) → Prop
  | nil : PD M [] []
  | cons {k : Ky} {p : PV} {v : Val} {r : List (Ky × PV)} {g : List (Ky × Val)} : DO M .tmp p v → PD M r g → PD M ((k, p) :: r) ((k, v) :: g)
def cellsP : List (Ky × PV) → List (Ky × Val) → List Nat
  | p :: ps, v :: vs => (match cellO p.2 v.2 with | some n => [n] | none => []) ++ cellsP ps vs
  | _, _ => []
theorem pairs_ok : ∀ {ps : List PV} {us : List Val} {kvs : List (Ky × PV)}, DOs M .tmp ps us → pairsV ps = some kvs → ∃ gvs, pairsOf us = some gvs ∧ PD M kvs gvs ∧ cellsP kvs gvs = cellsO ps us ∧ kvs.length = gvs.length
  | [], _, kvs, d, e => by
    cases d
    cases e
    exact ⟨[], rfl, .nil, rfl, rfl⟩
  | [_], _, _, _, e => by cases e
  | k :: p :: r, _, kvs, d, e => by
    cases d with
    | cons d1 d2 =>
      cases d2 with
      | cons d3 d4 =>
        unfold pairsV at e
        split at e
        · rename_i key more h1 h2
          cases e
          obtain ⟨gvs, g1, g2, g3, g4⟩ := pairs_ok d4 h2
          have ky := toKy_P d1.dl h1
          refine ⟨_, by unfold pairsOf; rw [ky, g1], .cons d3 g2, ?_, by simp [g4]⟩
          unfold cellsP cellsO cellsO
          rw [g3]
          have : ∀ v, cellO k v = none := fun v => by
            cases k with
            | int _ => cases v <;> rfl
            | str _ => cases v <;> rfl
            | _ => cases h1
          rw [this]
          rfl
        · cases e
theorem PD.cells {kvs : List (Ky × PV)} {gvs : List (Ky × Val)} (d : PD M kvs gvs) : ∀ n ∈ cellsP kvs gvs, M.ow n = .tmp := by
  induction d with
  | nil => intro n hn; cases hn
  | cons d1 _ ih =>
    intro n hn
    unfold cellsP at hn
    rcases List.mem_append.mp hn with h | h
    · cases q : cellO _ _ with
      | none => rw [q] at h; cases h
      | some m =>
        rw [q] at h
        rw [List.mem_singleton.mp h]
        exact cellO_tmp d1 q
    · exact ih n h
theorem PD.tag {o : Option Nat} {t0 : Tag} (h : ∀ n, o = some n → M.ow n = .tmp) {kvs : List (Ky × PV)} {gvs : List (Ky × Val)} (d : PD M kvs gvs) (hne : ∀ n ∈ cellsP kvs gvs, o ≠ some n) : PD (M.tag o t0) kvs gvs := by
  induction d with
  | nil => exact .nil
  | cons d1 _ ih =>
    unfold cellsP at hne
    exact .cons (tag_ne h d1 fun n e => hne n (by rw [e]; simp)) (ih fun n hn => hne n (List.mem_append_right _ hn))
theorem dic_fold (k : Nat) : ∀ {kvs : List (Ky × PV)} {gvs : List (Ky × Val)} {M : MS} {acc : List (Ky × PV)} {gacc : List (Ky × Val)}, PD M kvs gvs → (cellsP kvs gvs).Nodup → GD M (.en k) acc gacc → (acc.map (·.1)).Nodup →
    ∃ M', M'.h = M.h ∧ M'.mu = M.mu ∧ (∀ n, M'.ow n ≠ M.ow n → n ∈ cellsP kvs gvs) ∧ Keep (fun t => t ≠ .tmp) M M' ∧ GD M' (.en k) (kvs.foldl (fun acc kv => vput acc kv.1 kv.2) acc) (gvs.foldl (fun acc kv => dput acc kv.1 kv.2) gacc) ∧ ((kvs.foldl (fun acc kv => vput acc kv.1 kv.2) acc).map (·.1)).Nodup
  | _, _, M, acc, gacc, .nil, _, g, nd => ⟨M, rfl, rfl, fun n h => absurd rfl h, Keep.refl _ _, g, nd⟩
  | _, _, M, acc, gacc, .cons (k := key) (p := p) (v := v) (r := r) (g := gr) d ds, hn, g, nd => by
    unfold cellsP at hn
    rw [List.nodup_append] at hn
    obtain ⟨_, hn2, hn3⟩ := hn
    have ht : ∀ n, cellO p v = some n → M.ow n = .tmp := fun n e => cellO_tmp d e
    have K := tag_keep (t := .pl 0 (.en k key)) ht
    have g' := GD.eput K (by simp) (fun z hz => by simp) (tag_do d) g nd
    obtain ⟨M', h1, h2, h3, h4, h5, h6⟩ := dic_fold k (PD.tag (t0 := .pl 0 (.en k key)) ht ds (fun n hn e => by
      have := hn3 n (by simp only; rw [e]; simp) n hn
      exact this rfl)) hn2 g' (vput_keys key p acc nd).1
    refine ⟨M', h1, h2, fun n hne => ?_, K.trans h4, h5, h6⟩
    unfold cellsP
    by_cases c : M'.ow n = (M.tag (cellO p v) (.pl 0 (.en k key))).ow n
    · rw [c] at hne
      have : cellO p v = some n := by
        by_cases cc : cellO p v = some n
        · exact cc
        · exact absurd (show (if cellO p v = some n then _ else M.ow n) = M.ow n by rw [if_neg cc]) hne
      refine List.mem_append_left _ ?_
      simp only
      rw [this]
      simp
    · exact List.mem_append_right _ (h3 n c)
/-- a cell held in passing becomes an object -/
def MS.addO (M : MS) (p : Nat) (o : Ob) : MS := ⟨M.h.set p o, M.mu ++ [p], fun n => if n = p then .obj else M.ow n⟩
theorem addO_keep {p : Nat} {o : Ob} (hp : M.ow p = .tmp) : Keep (fun t => t ≠ .tmp) M (M.addO p o) := ⟨by simp [MS.addO], fun k n h => by
    show (M.mu ++ [p])[k]? = some n
    rw [List.getElem?_append_left (List.getElem?_eq_some_iff.mp h).1]
    exact h, fun n hn ht => by
  have hne : n ≠ p := fun e => ht (by rw [e]; exact hp)
  refine ⟨?_, ?_⟩
  · show (if n = p then _ else M.ow n) = M.ow n
    rw [if_neg hne]
  · show (M.h.set p o)[n]? = _
    rw [List.getElem?_set_ne (Ne.symm hne)]⟩
theorem At.addO (a : At b M0 w0 s w st M) {p : Nat} {o : Ob} {v : VOb} (hp : M.ow p = .tmp) (hl : p < M.h.length) (hf : p < M0.h.length → M0.ow p ≠ .tmp) (d : ObD (M.addO p o) w.H.ob.length p v) : At b M0 w0 s ⟨w.d, w.H.add v⟩ st (M.addO p o) := by
  have K := addO_keep (o := o) hp
  have hpp := a.s.hp
  have l3 : 3 ≤ M.h.length := by
    obtain ⟨x, e⟩ := hpp.dr
    rw [e, List.length_append]
    have : w.d.1.hs.length = 3 := rfl
    omega
  have key : ∀ n, M.ow n ≠ .tmp → (M.addO p o).ow n = M.ow n ∧ (M.addO p o).h[n]? = M.h[n]? := fun n hn => by
    have hne : n ≠ p := fun e => hn (by rw [e]; exact hp)
    refine ⟨?_, ?_⟩
    · show (if n = p then _ else M.ow n) = M.ow n
      rw [if_neg hne]
    · show (M.h.set p o)[n]? = _
      rw [List.getElem?_set_ne (Ne.symm hne)]
  have le : Le b M0 (M.addO p o) := by
    refine ⟨by show M0.h.length ≤ (M.h.set p o).length; rw [List.length_set]; exact a.l.len, fun k n h => K.mu _ _ (a.l.mu k n h), fun n hn e => ?_, fun n hn e => ?_, fun n hn e => ?_, fun n e i hn ht he => ?_⟩
    · obtain ⟨a1, a2⟩ := a.l.fz n hn e
      obtain ⟨b1, b2⟩ := key n (by rw [a1]; simp)
      exact ⟨b1.trans a1, b2.trans a2⟩
    · obtain ⟨a1, a2⟩ := a.l.tmp n hn e
      have hne : n ≠ p := fun c => hf (by rw [← c]; exact hn) (by rw [← c]; exact e)
      refine ⟨?_, ?_⟩
      · show (if n = p then _ else M.ow n) = .tmp
        rw [if_neg hne]; exact a1
      · show (M.h.set p o)[n]? = _
        rw [List.getElem?_set_ne (Ne.symm hne)]; exact a2
    · have a1 := a.l.obj n hn e
      exact (key n (by rw [a1]; simp)).1.trans a1
    · obtain ⟨a1, a2⟩ := a.l.sl n e i hn ht he
      obtain ⟨b1, b2⟩ := key n (by rw [a1]; simp)
      exact ⟨b1.trans a1, b2.trans a2⟩
  have hok : HOK (M.addO p o) ⟨w.d, w.H.add v⟩ := by
    have objne : ∀ k n : Nat, M.mu[k]? = some n → n ≠ p ∧ n < M.h.length := fun k n h => by
      have hk : k < w.H.ob.length := by rw [← hpp.ml]; exact (List.getElem?_eq_some_iff.mp h).1
      obtain ⟨n', g1, g2, g3⟩ := hpp.ob k _ (List.getElem?_eq_getElem hk)
      rw [h] at g1
      cases g1
      exact ⟨fun e => (by rw [e, hp] at g2; cases g2), obd_lt g3⟩
    refine ⟨dr_put (o := o) (t := .obj) hpp.dr (hpp.tmp3 hp), fun n hn => ?_, ?_, fun i j n h1 h2 => ?_, fun k o' e => ?_⟩
    · rw [(key n (by rw [hpp.o2 n hn]; simp)).1]; exact hpp.o2 n hn
    · show (M.mu ++ [p]).length = (w.H.ob ++ [v]).length
      simp [hpp.ml]
    · have kk : ∀ i : Nat, (M.mu ++ [p])[i]? = some n → (M.mu[i]? = some n) ∨ (i = M.mu.length ∧ n = p) := fun i h => by
        by_cases c : i < M.mu.length
        · rw [List.getElem?_append_left c] at h; exact .inl h
        · rw [List.getElem?_append_right (by omega)] at h
          have hl := (List.getElem?_eq_some_iff.mp h).1
          simp at hl
          have : i - M.mu.length = 0 := by omega
          rw [this] at h
          simp at h
          exact .inr ⟨by omega, h.symm⟩
      rcases kk i h1 with c1 | ⟨c1, c1'⟩ <;> rcases kk j h2 with c2 | ⟨c2, c2'⟩
      · exact hpp.mi i j n c1 c2
      · exact absurd c2' (objne i n c1).1
      · exact absurd c1' (objne j n c2).1
      · omega
    · have e' : (w.H.ob ++ [v])[k]? = some o' := e
      by_cases c : k < w.H.ob.length
      · rw [List.getElem?_append_left c] at e'
        obtain ⟨n, g1, g2, g3⟩ := hpp.ob k o' e'
        obtain ⟨a1, a2⟩ := key n (by rw [g2]; simp)
        exact ⟨n, K.mu _ _ g1, by rw [a1]; exact g2, g3.keep K (by simp) a2 fun _ _ => by simp⟩
      · have hl' := (List.getElem?_eq_some_iff.mp e').1
        simp at hl'
        have hk : k = w.H.ob.length := by omega
        subst hk
        simp at e'
        subst e'
        refine ⟨p, ?_, by show (if p = p then _ else _) = _; rw [if_pos rfl], d⟩
        show (M.mu ++ [p])[w.H.ob.length]? = _
        rw [← hpp.ml]
        simp
  refine ⟨le, Tk.trans0 a.l (fun n hn e => by obtain ⟨b1, b2⟩ := key n (by rw [e]; simp); exact ⟨b1.trans e, b2⟩) a.k ⟨Nat.le_refl _, fun _ n hn h => (key n (by rw [h]; simp)).2, Nat.le_refl _, fun _ n q hn _ h => ⟨(key n (by rw [h]; simp)).2, .inl ((key n (by rw [h]; simp)).1.trans h)⟩⟩, hok, a.s.len, fun i p e => ?_⟩
  obtain ⟨u, g1, g2⟩ := a.s.sl i p e
  exact ⟨u, g1, g2.keep K (by simp) (by simp)⟩
theorem dic_ok (a : At b M0 w0 s w st M) {p : Nat} {ps : List PV} {us : List Val} (hp : M.ow p = .tmp) (hc : M.h[p]? = some (.dct [])) (hf : p < M0.h.length → M0.ow p ≠ .tmp) (d : DOs M .tmp ps us) (fr : FrS M0 ps us) (nd : (cellsO ps us).Nodup) (hnp : p ∉ cellsO ps us) : PX (relR st) b st M0 w0 (dicF p us M.h) (dicX ps s w) := by
  unfold dicX
  cases q : pairsV ps with
  | none => trivial
  | some kvs =>
    simp only []
    split
    · rename_i hl
      obtain ⟨gvs, g1, g2, g3, g4⟩ := pairs_ok d q
      obtain ⟨M', h1, h2, h3, h4, h5, h6⟩ := dic_fold w.H.ob.length g2 (by rw [g3]; exact nd) .nil (by simp)
      have a1 : At b M0 w0 s w st M' := a.retag h1 h2 h4 fun n hne => by
        have := h3 n hne
        rw [g3] at this
        exact ⟨cellsO_tmp d this, fr n this⟩
      have hp' : M'.ow p = .tmp := by
        by_cases c : M'.ow p = M.ow p
        · rw [c]; exact hp
        · have := h3 p c
          rw [g3] at this
          exact absurd this hnp
      have K2 := addO_keep (o := .dct (dmerge gvs)) hp'
      have a2 : At b M0 w0 s ⟨w.d, w.H.add (.dct (vmerge kvs))⟩ st (M'.addO p (.dct (dmerge gvs))) := a1.addO hp' (by rw [h1]; exact lt_of hc) hf ⟨dmerge gvs, by
        show (M'.h.set p _)[p]? = _
        rw [List.getElem?_set_self (by rw [h1]; exact lt_of hc)], h5.keep K2 (by simp) fun _ _ => by simp, h6⟩
      have em : dicF p us M.h = .ok (.ref p) (M'.addO p (.dct (dmerge gvs))).h := by
        unfold dicF
        rw [hc, g1]
        simp only []
        rw [if_pos (by rw [← g4]; exact hl)]
        show R.ok (Val.ref p) (M.h.set p _) = R.ok (Val.ref p) (M'.h.set p _)
        rw [h1]
      rw [em]
      refine PX.val a2 (.ref ?_)
      show (M'.mu ++ [p])[w.H.ob.length]? = _
      rw [← a1.s.hp.ml]
      simp
    · trivial
/-! sources -/
def relI : MS → MS → W → VSrc → Src → Prop := fun _ M' w' src ms => DFs M' src.vs ms.items ∧ ∀ (b' : Nat) (M2 : MS) (w2 : W), Le b' M' M2 → Tk w' M' w2 M2 → grd src.g w2 = true → ms.ok M2.h = true
theorem dfs_chars (u : List Nat) : DFs M (u.map fun c => .str [c]) (u.map fun c => .str [c]) := by
  induction u with
  | nil => exact .nil
  | cons c u ih => exact .cons (.str _) ih
theorem dfs_rng (c : Int) : ∀ (n : Nat) (lo : Int), DFs M (rngV lo c n) (rangeV lo c n)
  | 0, _ => .nil
  | n + 1, lo => .cons (.int lo) (dfs_rng c n (lo + c))
theorem dfs_enu : ∀ {ps : List PV} {vs : List Val} (i : Nat), DFs M ps vs → DFs M (enuV i ps) (enumV i vs)
  | [], _, i, d => by cases d; exact .nil
  | _ :: _, _, i, d => by
    cases d with
    | cons d1 d2 => exact .cons (.tup (.cons (.int i) (.cons d1 .nil))) (dfs_enu (i + 1) d2)
/-- the two ways to walk a list -/
structure Way (f : List PV → List PV) (mk : Nat → List Val → Src) (F : Val → Hs → R Src) : Prop where
  it : ∀ (M : MS) n ps vs, DFs M ps vs → DFs M (f ps) (mk n vs).items
  ok : ∀ n vs (h : Hs), h[n]? = some (.lst vs) → (mk n vs).ok h = true
  F : ∀ n vs (h : Hs), h[n]? = some (.lst vs) → F (.ref n) h = .ok (mk n vs) h
theorem way_val : Way (fun vs => vs) Src.lst srcF := ⟨fun _ _ _ _ d => d, fun n vs h e => by simp [Src.ok, e], fun n vs h e => by simp [srcF, e]⟩
theorem way_enu : Way (enuV 0) Src.enu enuF := ⟨fun _ _ _ _ d => dfs_enu 0 d, fun n vs h e => by simp [Src.ok, e], fun n vs h e => by simp [enuF, e]⟩
/-- a list that stands still, or that is held in passing -/
theorem way_df {f : List PV → List PV} {mk : Nat → List Val → Src} {F : Val → Hs → R Src} (W : Way f mk F) (a : At b M0 w0 s w st M) {o : Ow} {ps : List PV} {u : Val} (d : DO M .tmp (.lst o ps) u) : PX relI b st M0 w0 (F u M.h) (.ok ⟨f ps, none⟩ s w) := by
  cases d with
  | f d =>
    cases d with
    | lst h1 h2 d =>
      rw [W.F _ _ _ h2]
      refine PX.ok a ⟨W.it _ _ _ _ d, fun b' M2 w2 l _ _ => W.ok _ _ _ ?_⟩
      rw [(l.fz _ (lt_of h2) h1).2]; exact h2
  | l h1 h2 d =>
    rw [W.F _ _ _ h2]
    refine PX.ok a ⟨W.it _ _ _ _ d, fun b' M2 w2 l _ _ => W.ok _ _ _ ?_⟩
    rw [(l.tmp _ (lt_of h2) h1).2]; exact h2
theorem way_p {f : List PV → List PV} {mk : Nat → List Val → Src} {F : Val → Hs → R Src} (W : Way f mk F) (a : At b M0 w0 s w st M) {q : Pl} {t : Nat} {u : Val} (rr : RR M st w (.p q t) u) : PX relI b st M0 w0 (F u M.h) (srcP f q t s w) := by
  have hard : q.obj ≠ none → tgP b q = .pl 0 q → PX relI b st M0 w0 (F u M.h) (if okT q t w = true then srcO q f (getP q s w) s w else .stk) := fun ho htg => by
    by_cases hk : okT q t w = true
    · rw [if_pos hk]
      cases e : getP q s w with
      | none => trivial
      | some p =>
        cases p with
        | lst o ps =>
          cases o with
          | sh =>
            have d := (a.s.at_ rr hk e).sh rfl
            exact way_df W a (.f d)
          | ow =>
            obtain ⟨n, vs, rfl, h1, h2, dv⟩ := (a.s.at_ rr hk e).place
            unfold srcO
            simp only []
            rw [W.F _ _ _ h2]
            refine PX.ok a ⟨W.it _ _ _ _ dv, fun b' M2 w2 l k g => W.ok _ _ _ ?_⟩
            have hu : w2.H.u = w.H.u := by simpa [grd] using g
            rw [htg] at h1
            rw [(k.l hu n q (lt_of h2) ho h1).1]; exact h2
        | _ => trivial
    · rw [if_neg hk]; trivial
  cases q with
  | sl i =>
    unfold srcP
    simp only []
    have := esc_ok a rr trivial
    cases e : lE (.p (.sl i) t) s w with
    | stk => trivial
    | exc _ _ _ _ => rw [e] at this; exact this.elim
    | ok x s' w' =>
      rw [e] at this
      obtain ⟨M', hh, a', l', k', d, f'⟩ := this
      rw [VR.bind_ok]
      unfold srcL
      rw [← hh]
      cases x with
      | lst o ps => exact way_df W a' d
      | _ => trivial
  | fl k f => exact hard (by simp [Pl.obj]) rfl
  | en k f => exact hard (by simp [Pl.obj]) rfl
theorem PX.vals (a : At b M0 w0 s w st M) {ps : List PV} {vs : List Val} (d : DFs M ps vs) : PX relI b st M0 w0 (.ok (.vals vs) M.h) (.ok ⟨ps, none⟩ s w) := PX.ok (rel := relI) (x := (⟨ps, none⟩ : VSrc)) (u := Src.vals vs) a ⟨d, fun _ _ _ _ _ _ => rfl⟩
theorem src_ok (a : At b M0 w0 s w st M) {r : RL} {u : Val} (rr : RR M st w r u) : PX relI b st M0 w0 (srcF u M.h) (srcX r s w) := by
  cases r with
  | p q t => exact way_p way_val a rr
  | v x =>
    cases x with
    | tup ps =>
      obtain ⟨vs, rfl, dv⟩ := (DO.dl rr).t
      exact PX.vals a (dv)
    | lst o ps => exact way_df way_val a rr
    | str z =>
      obtain rfl := (DO.dl rr).s
      exact PX.vals a (dfs_chars z)
    | _ => trivial
theorem enu_ok (a : At b M0 w0 s w st M) {r : RL} {u : Val} (rr : RR M st w r u) : PX relI b st M0 w0 (enuF u M.h) (enuX r s w) := by
  cases r with
  | p q t => exact way_p way_enu a rr
  | v x =>
    cases x with
    | tup ps =>
      obtain ⟨vs, rfl, dv⟩ := (DO.dl rr).t
      exact PX.vals a (dfs_enu 0 dv)
    | lst o ps => exact way_df way_enu a rr
    | _ => trivial
theorem inH_and {i : Int} (h : inH i = true) : -hlim ≤ i ∧ i < hlim := of_decide_eq_true h
theorem rng1_ok (a : At b M0 w0 s w st M) {x : PV} {u : Val} (d : DL M x u) : PX relI b st M0 w0 (rng1F u M.h) (rng1X x s w) := by
  cases x with
  | int i =>
    obtain rfl := d.i
    unfold rng1X rng1F
    simp only []
    by_cases h : inH i = true
    · rw [if_pos h, if_pos (inH_and h)]
      exact PX.vals a (dfs_rng 1 _ _)
    · rw [if_neg h]
      trivial
  | _ => trivial
theorem rng2_ok (a : At b M0 w0 s w st M) {x y : PV} {u v : Val} (d : DL M x u) (d' : DL M y v) : PX relI b st M0 w0 (rng2F u v M.h) (rng2X x y s w) := by
  cases x with
  | int i =>
    cases y with
    | int j =>
      obtain rfl := d.i; obtain rfl := d'.i
      unfold rng2X rng2F
      simp only []
      by_cases h : inH i = true ∧ inH j = true
      · rw [if_pos h, if_pos ⟨(inH_and h.1).1, (inH_and h.1).2, (inH_and h.2).1, (inH_and h.2).2⟩]
        exact PX.vals a (dfs_rng 1 _ _)
      · rw [if_neg h]
        trivial
    | _ => trivial
  | _ => cases y <;> trivial
theorem rng3_ok (a : At b M0 w0 s w st M) {x y z : PV} {u v t : Val} (d : DL M x u) (d' : DL M y v) (d2 : DL M z t) : PX relI b st M0 w0 (rng3F u v t M.h) (rng3X x y z s w) := by
  unfold rng3X
  split
  · obtain rfl := d.i; obtain rfl := d'.i; obtain rfl := d2.i
    rename_i i j
    unfold rng3F
    simp only []
    by_cases h : inH i = true ∧ inH j = true
    · rw [if_pos h, if_pos ⟨(inH_and h.1).1, (inH_and h.1).2, (inH_and h.2).1, (inH_and h.2).2⟩]
      exact PX.vals a (dfs_rng _ _ _)
    · rw [if_neg h]
      trivial
  · trivial
end
end MP

set_option Elab.async false
set_option linter.all false
set_option maxRecDepth 100000
set_option maxHeartbeats 4000000
set_option autoImplicit false
/-! VEk: comprehensions; every expression. -/
namespace MP
open PySem PySem.Spec L2
theorem setTs_ok {b : Nat} {w : W} {M : MS} : ∀ {js : List Nat} {ps : List PV} {vs : List Val} {s s1 : VSl} {st : Sl}, Sim b s w st M → DFs M ps vs → setTsV js ps s = some s1 → ∃ st1, setTs js vs st = some st1 ∧ Sim b s1 w st1 M ∧ st1.length = st.length ∧ ∀ i, i ∉ js → st1[i]? = st[i]?
  | [], [], _, s, s1, st, sim, d, e => by
    cases d
    cases e
    exact ⟨st, rfl, sim, rfl, fun _ _ => rfl⟩
  | j :: js, p :: ps, _, s, s1, st, sim, d, e => by
    cases d with
    | cons d1 d2 =>
      rename_i v vs
      have sim1 : Sim b (s.set j (some p)) w (st.set j (some v)) M := ⟨sim.hp, by rw [List.length_set, List.length_set]; exact sim.len, fun i q hi => by
        by_cases c : j = i
        · subst c
          have hl := (List.getElem?_eq_some_iff.mp hi).1
          rw [List.length_set] at hl
          rw [List.getElem?_set_self hl] at hi
          cases hi
          exact ⟨v, List.getElem?_set_self (by rw [← sim.len]; exact hl), .f d1⟩
        · rw [List.getElem?_set_ne c] at hi ⊢
          exact sim.sl i q hi⟩
      obtain ⟨st1, h1, h2, h3, h4⟩ := setTs_ok sim1 d2 e
      refine ⟨st1, h1, h2, by rw [h3, List.length_set], fun i hi => ?_⟩
      rw [List.mem_cons, not_or] at hi
      rw [h4 i hi.2, List.getElem?_set_ne (Ne.symm hi.1)]
  | [], _ :: _, _, _, _, _, _, _, e => by cases e
  | _ :: _, [], _, _, _, _, _, _, e => by cases e
theorem setT_okV {b : Nat} {w : W} {M : MS} {tg : Tg} {p : PV} {v : Val} {s s1 : VSl} {st : Sl} (sim : Sim b s w st M) (d : DF M p v) (e : setTV tg p s = some s1) : ∃ st1, setT tg v st = some st1 ∧ Sim b s1 w st1 M ∧ st1.length = st.length ∧ ∀ i, i ∉ tgI tg → st1[i]? = st[i]? := by
  cases tg with
  | nm j =>
    have e' : setTsV [j] [p] s = some s1 := e
    obtain ⟨st1, h1, h2, h3, h4⟩ := setTs_ok sim (.cons d .nil) e'
    exact ⟨st1, h1, h2, h3, h4⟩
  | tup js =>
    cases p with
    | tup ps =>
      cases d with
      | tup d =>
        obtain ⟨st1, h1, h2, h3, h4⟩ := setTs_ok sim d e
        exact ⟨st1, h1, h2, h3, h4⟩
    | _ => cases e
theorem wipeV_len (s : VSl) : ∀ js : List Nat, (wipeV s js).length = s.length
  | [] => rfl
  | j :: js => by rw [wipeV, List.length_set, wipeV_len s js]
theorem wipeV_out {s : VSl} {i : Nat} : ∀ {js : List Nat}, i ∉ js → (wipeV s js)[i]? = s[i]?
  | [], _ => rfl
  | j :: js, h => by
    rw [List.mem_cons, not_or] at h
    rw [wipeV, List.getElem?_set_ne (Ne.symm h.1), wipeV_out h.2]
theorem wipeV_in {s : VSl} {i : Nat} {p : PV} : ∀ {js : List Nat}, i ∈ js → (wipeV s js)[i]? ≠ some (some p)
  | j :: js, h => by
    rw [wipeV]
    by_cases c : j = i
    · subst c
      intro e
      have hl := (List.getElem?_eq_some_iff.mp e).1
      rw [List.length_set] at hl
      rw [List.getElem?_set_self hl] at e
      cases e
    · rw [List.getElem?_set_ne c]
      exact wipeV_in ((List.mem_cons.mp h).resolve_left (Ne.symm c))
theorem wipeS_out {s : Sl} {i : Nat} : ∀ {js : List Nat}, i ∉ js → (wipeS s js)[i]? = s[i]?
  | [], _ => rfl
  | j :: js, h => by
    rw [List.mem_cons, not_or] at h
    rw [wipeS, List.getElem?_set_ne (Ne.symm h.1), wipeS_out h.2]
theorem wipeS_len' (s : Sl) : ∀ js : List Nat, (wipeS s js).length = s.length
  | [] => rfl
  | j :: js => by rw [wipeS, List.length_set, wipeS_len' s js]
theorem backV_len (s0 s : VSl) : ∀ js : List Nat, (backV s0 s js).length = s.length
  | [] => rfl
  | j :: js => by rw [backV, List.length_set, backV_len s0 s js]
theorem backV_out {s0 s : VSl} {i : Nat} : ∀ {js : List Nat}, i ∉ js → (backV s0 s js)[i]? = s[i]?
  | [], _ => rfl
  | j :: js, h => by
    rw [List.mem_cons, not_or] at h
    rw [backV, List.getElem?_set_ne (Ne.symm h.1), backV_out h.2]
theorem backV_in {s0 s : VSl} {i : Nat} {p : PV} : ∀ {js : List Nat}, i ∈ js → (backV s0 s js)[i]? = some (some p) → s0[i]? = some (some p) ∧ isOw p = false
  | j :: js, h, e => by
    rw [backV] at e
    by_cases c : j = i
    · subst c
      have hl := (List.getElem?_eq_some_iff.mp e).1
      rw [List.length_set] at hl
      rw [List.getElem?_set_self hl] at e
      have e1 := Option.some.inj e
      unfold plainO at e1
      split at e1
      · rename_i v hv
        split at e1
        · cases e1
        · rename_i hno
          cases e1
          unfold slG' at hv
          split at hv
          · rename_i v' hv'
            cases hv
            exact ⟨hv', by simpa using hno⟩
          · cases hv
      · cases e1
    · rw [List.getElem?_set_ne c] at e
      exact backV_in ((List.mem_cons.mp h).resolve_left (Ne.symm c)) e
theorem Sim.wipe {b : Nat} {s : VSl} {w : W} {st st' : Sl} {M : MS} {jt : List Nat} (sim : Sim b s w st M) (hl : st'.length = st.length) (h : ∀ i, i ∉ jt → st[i]? = st'[i]?) : Sim b (wipeV s jt) w st' M :=
  ⟨sim.hp, by rw [wipeV_len, hl]; exact sim.len, fun i p e => by
    by_cases c : i ∈ jt
    · exact absurd e (wipeV_in c)
    · rw [wipeV_out c] at e
      rw [← h i c]
      exact sim.sl i p e⟩
section
variable {b : Nat} {M0 M M1 : MS} {w0 w w1 : W} {s s1 : VSl} {st : Sl} {C : Calls} {V : VCl}
def relOV : MS → MS → W → Option PV → Option Val → Prop := fun _ M' _ o o' => (o = none ∧ o' = none) ∨ ∃ y v, o = some y ∧ o' = some v ∧ DF M' y v
/-- one step of a comprehension -/
def StepOK (b : Nat) (jt : List Nat) (st' : Sl) (step : PV → VSl → W → VR (Option PV)) (mstep : Val → Hs → R (Option Val)) : Prop := ∀ (p : PV) (v : Val) (s : VSl) (w : W) (M : MS), Sim b (wipeV s jt) w st' M → DF M p v → match step p s w with
  | .ok o s' w' => ∃ o' M', mstep v M.h = .ok o' M'.h ∧ Le b M M' ∧ Tk w M w' M' ∧ Sim b (wipeV s' jt) w' st' M' ∧ relOV M M' w' o o'
  | _ => True
def compK (mstep : Val → Hs → R (Option Val)) (src : Src) (p : Nat) (vs : List Val) (o : Option Val) (h1 : Hs) : R Unit := match o with
  | none => compV mstep src p vs h1
  | some y => match h1[p]? with
    | some (.lst acc) => if acc.length < lim then compV mstep src p vs (h1.set p (.lst (acc ++ [y]))) else .stk
    | _ => .stk
theorem comp_okV {jt : List Nat} {st' : Sl} {step : PV → VSl → W → VR (Option PV)} {mstep : Val → Hs → R (Option Val)} (hstep : StepOK b jt st' step mstep) {g : Option Nat} {src : Src} {p : Nat} {Ms : MS} {ws : W}
    (hg : ∀ (b' : Nat) (M2 : MS) (w2 : W), Le b' Ms M2 → Tk ws Ms w2 M2 → grd g w2 = true → src.ok M2.h = true) :
    ∀ {items : List PV} {mitems : List Val} {acc : List PV} {macc : List Val} {s : VSl} {w : W} {M : MS}, Le b Ms M → Tk ws Ms w M → Sim b (wipeV s jt) w st' M → DFs M items mitems → M.ow p = .tmp → M.h[p]? = some (.lst macc) → DFs M acc macc → (p < Ms.h.length → False) →
      match compX step g items acc s w with
      | .ok acc' s' w' => ∃ macc' M', compV mstep src p mitems M.h = .ok () M'.h ∧ Le b Ms M' ∧ Tk ws Ms w' M' ∧ Sim b (wipeV s' jt) w' st' M' ∧ M'.ow p = .tmp ∧ M'.h[p]? = some (.lst macc') ∧ DFs M' acc' macc'
      | _ => True
  | [], _, acc, macc, s, w, M, l, k, sim, d, hp, hh, da, hn => by
    cases d
    unfold compX
    split
    · rename_i acc' s' w' e
      split at e
      · rename_i hgr
        cases e
        refine ⟨macc, M, ?_, l, k, sim, hp, hh, da⟩
        unfold compV
        rw [if_pos (hg b M w l k hgr)]
      · cases e
    · trivial
  | x :: items, _, acc, macc, s, w, M, l, k, sim, d, hp, hh, da, hn => by
    cases d with
    | cons d1 d2 =>
      rename_i v vs
      unfold compX
      by_cases hgr : grd g w = true
      · rw [if_pos hgr]
        have hs := hstep x v s w M sim d1
        cases e : step x s w with
        | stk => trivial
        | exc _ _ _ _ => trivial
        | ok o s1 w1 =>
          rw [e] at hs
          obtain ⟨o', M1, em, l1, k1, sim1, ro⟩ := hs
          rw [noXV_ok, VR.bind_ok]
          have l' := l.trans l1
          have k' := Tk.trans l l1 k k1
          obtain ⟨p1, p2⟩ := l1.tmp p (lt_of hh) hp
          rw [hh] at p2
          have da1 := l1.dfs da
          have cv : compV mstep src p (v :: vs) M.h = compK mstep src p vs o' M1.h := by
            rw [compV, if_pos (hg b M w l k hgr), em]
            rfl
          rcases ro with ⟨rfl, rfl⟩ | ⟨y, u, rfl, rfl, dy⟩
          · have ih := comp_okV hstep hg l' k' sim1 (l1.dfs d2) p1 p2 da1 hn
            rw [cv]
            unfold compK
            exact ih
          · simp only []
            by_cases hl : acc.length < lim
            · rw [if_pos hl]
              have hne : ¬ (fun t => t ≠ Tag.tmp) (M1.ow p) := by rw [p1]; simp
              have K : Keep (fun t => t ≠ .tmp) M1 (M1.put p (.lst (macc ++ [u])) .tmp) := put_keep hne
              have l2 : Le b Ms (M1.put p (.lst (macc ++ [u])) .tmp) := by
                refine ⟨by show Ms.h.length ≤ (M1.h.set p _).length; rw [List.length_set]; exact l'.len, l'.mu, fun n hnn e => ?_, fun n hnn e => ?_, fun n hnn e => ?_, fun n e i hnn ht he => ?_⟩
                · obtain ⟨a1, a2⟩ := l'.fz n hnn e
                  obtain ⟨b1, b2⟩ := K.at_ n (Nat.lt_of_lt_of_le hnn l'.len) (by rw [a1]; simp)
                  exact ⟨b1.trans a1, b2.trans a2⟩
                · obtain ⟨a1, a2⟩ := l'.tmp n hnn e
                  have hnp : n ≠ p := fun c => hn (by rw [← c]; exact hnn)
                  refine ⟨?_, ?_⟩
                  · show (if n = p then _ else M1.ow n) = .tmp
                    rw [if_neg hnp]; exact a1
                  · show (M1.h.set p _)[n]? = _
                    rw [List.getElem?_set_ne (Ne.symm hnp)]; exact a2
                · have a1 := l'.obj n hnn e
                  exact (K.at_ n (Nat.lt_of_lt_of_le hnn l'.len) (by rw [a1]; simp)).1.trans a1
                · obtain ⟨a1, a2⟩ := l'.sl n e i hnn ht he
                  obtain ⟨b1, b2⟩ := K.at_ n (Nat.lt_of_lt_of_le hnn l'.len) (by rw [a1]; simp)
                  exact ⟨b1.trans a1, b2.trans a2⟩
              have k2 : Tk ws Ms w1 (M1.put p (.lst (macc ++ [u])) .tmp) := Tk.trans0 l' (fun n hnn e => by rw [← e]; exact K.at_ n hnn (by rw [e]; simp)) k' ⟨Nat.le_refl _, fun _ n hnn ho => (K.at_ n hnn (by rw [ho]; simp)).2, Nat.le_refl _, fun _ n q hnn _ ho => ⟨(K.at_ n hnn (by rw [ho]; simp)).2, .inl ((K.at_ n hnn (by rw [ho]; simp)).1.trans ho)⟩⟩
              have sim2 : Sim b (wipeV s1 jt) w1 st' (M1.put p (.lst (macc ++ [u])) .tmp) := sim1.keep K (by simp) (by simp) (by simp) (fun _ _ => by simp) (fun _ => by simp) (dr_put sim1.hp.dr (sim1.hp.tmp3 p1)) rfl
              have ih := comp_okV hstep hg l2 k2 sim2 (DFs.keep K (by simp) _ _ (l1.dfs d2)) put_ow (put_at (lt_of p2)) ((DFs.keep K (by simp) _ _ da1).app (.cons (DF.keep K (by simp) _ _ dy) .nil)) hn
              rw [cv]
              unfold compK
              simp only [p2]
              rw [if_pos (by rw [← da1.len]; exact hl)]
              exact ih
            · rw [if_neg hl]; trivial
      · rw [if_neg hgr]; trivial
/-- one step's parts -/
theorem step_okV {jt : List Nat} {tg : Tg} {st' : Sl} {vc ve : VSl → W → VR RL} {mc : Sl → Hs → R Bool} {me : Sl → Hs → R Val} (ht : ∀ i, i ∈ tgI tg → i ∈ jt)
    (hc : ∀ {b : Nat} {s : VSl} {w : W} {st : Sl} {M : MS}, Sim b s w st M → ∀ {γ δ : Type} {rel : MS → MS → W → δ → γ → Prop} {F : Bool → Hs → R γ} {K : RL → VSl → W → VR δ}, (∀ r s1 w1 M1 k, At b M w s1 w1 st M1 → truX r s1 w1 = some k → PX rel b st M w (F k M1.h) (K r s1 w1)) → (∀ r s w, truX r s w = none → K r s w = .stk) → PX rel b st M w ((mc st M.h).bind F) ((vc s w).bind K))
    (he : ∀ {b : Nat} {s : VSl} {w : W} {st : Sl} {M : MS}, Sim b s w st M → PX (relR st) b st M w (me st M.h) (ve s w)) : StepOK b jt st' (stepX jt tg vc ve) (stepG tg mc me st') := by
  intro p v s w M sim d
  unfold stepX
  cases e : setTV tg p (wipeV s jt) with
  | none => trivial
  | some s1 =>
    simp only []
    obtain ⟨st1, h1, h2, h3, h4⟩ := setT_okV sim d e
    have P : PX relOV b st1 M w ((mc st1 M.h).bind (stepK (me st1))) ((vc s1 w).bind (stepX1 ve)) := by
      refine hc h2 (fun r s2 w2 M2 k a2 ek => ?_) (fun r s w e => by unfold stepX1; rw [e])
      unfold stepX1 stepK
      rw [ek]
      cases k with
      | false => exact PX.ok a2 (.inl ⟨rfl, rfl⟩)
      | true =>
        simp only [if_true]
        refine PX.bind a2 (he a2.s) fun r2 s3 w3 u3 M3 a3 l3 k3 ⟨rr, fr⟩ => ?_
        refine lEK_ok (F := someK) a3 rr (fr.back a2.l) fun x s4 w4 M4 hh a4 l4 k4 d4 f4 => ?_
        obtain ⟨M5, hh5, a5, K5, d5⟩ := shr1_at a4 d4 f4
        unfold someV someK
        rw [← hh5]
        exact PX.ok a5 (.inr ⟨_, _, rfl, rfl, d5⟩)
    cases q : (vc s1 w).bind (stepX1 ve) with
    | stk => trivial
    | exc _ _ _ _ => trivial
    | ok o s2 w2 =>
      rw [q] at P
      obtain ⟨o', M', em, l, k, sim2, ro⟩ := P
      refine ⟨o', M', ?_, l, k, sim2.wipe (by rw [h3]) (fun i hi => h4 i fun c => hi (ht i c)), ro⟩
      unfold stepG
      rw [h1]
      exact em
theorem lc_okV (a : At b M0 w0 s w st M) {js : List Nat} {tg : Tg} {vc ve : VSl → W → VR RL} {mc : Sl → Hs → R Bool} {me : Sl → Hs → R Val} {src : VSrc} {ms : Src} {Ms : MS} {ws : W}
    (hs : StepOK b (js ++ tgI tg) (wipeS st js) (stepX (js ++ tgI tg) tg vc ve) (stepG tg mc me (wipeS st js))) (l0 : Le b Ms M) (k0 : Tk ws Ms w M) (ri : relI Ms M w src ms) :
    PX (relR st) b st M0 w0 (lcG (stepG tg mc me (wipeS st js)) ms M.h) (lcX (stepX (js ++ tgI tg) tg vc ve) (js ++ tgI tg) src s w) := by
  obtain ⟨d, hg⟩ := ri
  unfold lcX lcG
  have sim1 : Sim b (wipeV s (js ++ tgI tg)) w (wipeS st js) M := a.s.wipe (wipeS_len' st js) fun i hi => by
    rw [List.mem_append, not_or] at hi
    exact (wipeS_out hi.1).symm
  have C := comp_okV (g := src.g) (src := ms) (p := M.h.length) (Ms := M) (ws := w) hs hg (items := src.vs) (mitems := ms.items) (acc := []) (macc := []) (s := s) (w := w) (M := M.new (.lst []) .tmp) new_le new_tk (sim1.new) (new_dfs d) new_ow new_at .nil (fun h => absurd h (Nat.lt_irrefl _))
  cases q : compX (stepX (js ++ tgI tg) tg vc ve) src.g src.vs [] s w with
  | stk => trivial
  | exc _ _ _ _ =>
    -- noXV lets no exception out
    exfalso
    have key : ∀ (items : List PV) (acc : List PV) (s : VSl) (w : W) c vs s' w', compX (stepX (js ++ tgI tg) tg vc ve) src.g items acc s w ≠ .exc c vs s' w' := by
      intro items
      induction items with
      | nil =>
        intro acc s w c vs s' w' e
        unfold compX at e
        split at e <;> cases e
      | cons x items ih =>
        intro acc s w c vs s' w' e
        unfold compX at e
        split at e
        · cases z : stepX (js ++ tgI tg) tg vc ve x s w with
          | stk => rw [z] at e; cases e
          | exc _ _ _ _ => rw [z] at e; cases e
          | ok o s1 w1 =>
            rw [z, noXV_ok, VR.bind_ok] at e
            cases o with
            | none => exact ih _ _ _ _ _ _ _ e
            | some y =>
              simp only at e
              split at e
              · exact ih _ _ _ _ _ _ _ e
              · cases e
        · cases e
    exact key _ _ _ _ _ _ _ _ q
  | ok acc' s' w' =>
    rw [q] at C
    obtain ⟨macc', M', em, l, k, sim', p1, p2, da⟩ := C
    rw [VR.bind_ok]
    have em' : compV (stepG tg mc me (wipeS st js)) ms M.h.length ms.items (M.h ++ [.lst []]) = .ok () M'.h := em
    rw [em', R.bind_ok]
    unfold lcEnd lcK
    refine ⟨_, M', rfl, a.l.trans l, Tk.trans a.l l a.k k, ⟨sim'.hp, by rw [backV_len]; have := sim'.len; rw [wipeV_len, wipeS_len'] at this; exact this, fun i p e => ?_⟩, ?_, ?_⟩
    · by_cases c : i ∈ js ++ tgI tg
      · obtain ⟨e1, e2⟩ := backV_in c e
        obtain ⟨v, g1, g2⟩ := a.s.sl i p e1
        exact ⟨v, g1, .f (l.df (g2.sh e2))⟩
      · rw [backV_out c] at e
        obtain ⟨v, g1, g2⟩ := sim'.sl i p (by rw [wipeV_out c]; exact e)
        rw [List.mem_append, not_or] at c
        rw [wipeS_out c.1] at g1
        exact ⟨v, g1, g2⟩
    · exact .l p1 p2 da
    · intro n hn h
      cases hn
      exact absurd h (Nat.not_lt.mpr a.l.len)
end
/-! ### every expression -/
section
variable {C : Calls} {V : VCl}
theorem ofO_bind {α β : Type} {o : Option α} {a : α} {h : Hs} {f : α → Hs → R β} (e : o = some a) : (ofO o h).bind f = f a h := by rw [e]; rfl
mutual
theorem vx_ok (hC : CallsOK C V) : ∀ (e : E) {b : Nat} {s : VSl} {w : W} {st : Sl} {M : MS}, Sim b s w st M → PX (relR st) b st M w (ev C e st M.h) (vx V e s w)
  | .var i, b, s, w, st, M, sim => by
    unfold vx ev varX
    split
    · rename_i v hv
      obtain ⟨u, h1, h2⟩ := sim.sl i v hv
      rw [h1]
      unfold mkR varF
      simp only []
      split
      · exact PX.ok (At.start sim) ⟨h1, trivial⟩
      · rename_i hno
        exact PX.val (At.start sim) (h2.sh (by simpa using hno))
    · trivial
  | .non, b, s, w, st, M, sim => by unfold vx ev; exact PX.val (At.start sim) .non
  | .tt k, b, s, w, st, M, sim => by unfold vx ev; exact PX.val (At.start sim) (.bl k)
  | .int i, b, s, w, st, M, sim => by unfold vx ev; exact PX.val (At.start sim) (.int i)
  | .str z, b, s, w, st, M, sim => by unfold vx ev; exact PX.val (At.start sim) (.str z)
  | .glob k, b, s, w, st, M, sim => by
    unfold vx ev
    rw [hC.glob]
    cases q : C.glob k with
    | none => trivial
    | some v =>
      refine PX.ofR (At.start sim) fun z e => ?_
      exact .inl ⟨v, rfl, pvOf_ok v z e⟩
  | .bin op x y, b, s, w, st, M, sim => by
    unfold vx ev
    refine PX.bind (At.start sim) (vx_ok hC x sim) fun ra s1 w1 u M1 a1 l1 k1 ⟨rr, fr⟩ => ?_
    refine PX.bind a1 (vx_ok hC y a1.s) fun rb s2 w2 v M2 a2 l2 k2 ⟨rr2, fr2⟩ => ?_
    exact ld2_ok a2 (RR.mono a1.s l2 k2 rr) rr2 fun p q dp dq => PX.ofR a2 fun z e => binV_ok dp dq e
  | .neg x, b, s, w, st, M, sim => by
    unfold vx ev
    refine PX.bind (At.start sim) (vx_ok hC x sim) fun ra s1 w1 u M1 a1 l1 k1 ⟨rr, fr⟩ => ?_
    refine lB_ok a1 rr fun p d => ?_
    cases p with
    | int i => obtain rfl := d.i; exact PX.val a1 (.int _)
    | _ => trivial
  | .not x, b, s, w, st, M, sim => by
    unfold vx ev
    refine PX.bind (At.start sim) (vx_ok hC x sim) fun ra s1 w1 u M1 a1 l1 k1 ⟨rr, fr⟩ => ?_
    refine lB_ok a1 rr fun p d => ?_
    unfold notX truK
    cases q : truV w1.H p with
    | none => trivial
    | some k =>
      rw [ofO_bind (truV_ok a1.s.hp d q)]
      exact PX.val a1 (.bl _)
  | .cmp op x y, b, s, w, st, M, sim => by
    unfold vx ev
    refine PX.bind (At.start sim) (vx_ok hC x sim) fun ra s1 w1 u M1 a1 l1 k1 ⟨rr, fr⟩ => ?_
    refine PX.bind a1 (vx_ok hC y a1.s) fun rb s2 w2 v M2 a2 l2 k2 ⟨rr2, fr2⟩ => ?_
    refine ld2_ok a2 (RR.mono a1.s l2 k2 rr) rr2 fun p q dp dq => PX.ofR a2 fun z e => ?_
    obtain ⟨k, rfl, e'⟩ := cmpV_ok a2.s.hp dp dq e
    exact .inl ⟨_, e', .bl k⟩
  | .chain op op2 x y z, b, s, w, st, M, sim => by
    unfold vx ev
    refine PX.bind (At.start sim) (vx_ok hC x sim) fun ra s1 w1 u M1 a1 l1 k1 ⟨rr, fr⟩ => ?_
    refine PX.bind a1 (vx_ok hC y a1.s) fun rb s2 w2 v M2 a2 l2 k2 ⟨rr2, fr2⟩ => ?_
    refine ld2_ok a2 (RR.mono a1.s l2 k2 rr) rr2 fun p q dp dq => ?_
    unfold chX1 chainF
    split
    · rename_i e
      obtain ⟨k, hk, e'⟩ := cmpV_ok a2.s.hp dp dq e
      cases hk
      rw [e', R.bind_ok]
      split
      · trivial
      · rename_i hno
        unfold chainK
        simp only []
        refine PX.bind a2 (vx_ok hC z a2.s) fun rc s3 w3 t M3 a3 l3 k3 ⟨rr3, fr3⟩ => ?_
        refine lB_ok a3 rr3 fun r dr => PX.ofR a3 fun z e => ?_
        obtain ⟨k, rfl, e'⟩ := cmpV_ok a3.s.hp (.f (l3.df (dq.sh (by simpa using hno)))) dr e
        exact .inl ⟨_, e', .bl k⟩
    · rename_i e
      obtain ⟨k, hk, e'⟩ := cmpV_ok a2.s.hp dp dq e
      cases hk
      rw [e', R.bind_ok]
      exact PX.val a2 (.bl _)
    · trivial
  | .chain3 op op2 op3 x y z t, b, s, w, st, M, sim => by
    unfold vx ev
    refine PX.bind (At.start sim) (vx_ok hC x sim) fun ra s1 w1 u M1 a1 l1 k1 ⟨rr, fr⟩ => ?_
    refine PX.bind a1 (vx_ok hC y a1.s) fun rb s2 w2 v M2 a2 l2 k2 ⟨rr2, fr2⟩ => ?_
    refine ld2_ok a2 (RR.mono a1.s l2 k2 rr) rr2 fun p q dp dq => ?_
    unfold ch3X1 chain3F
    split
    · rename_i e
      obtain ⟨k, hk, e'⟩ := cmpV_ok a2.s.hp dp dq e
      cases hk
      rw [e', R.bind_ok]
      split
      · trivial
      · rename_i hno
        unfold chain3K
        simp only []
        refine PX.bind a2 (vx_ok hC z a2.s) fun rc s3 w3 t' M3 a3 l3 k3 ⟨rr3, fr3⟩ => ?_
        refine lB_ok a3 rr3 fun r dr => ?_
        unfold chX1 chainF
        have dq' : DL M3 q v := .f (l3.df (dq.sh (by simpa using hno)))
        split
        · rename_i e
          obtain ⟨k, hk, e'⟩ := cmpV_ok a3.s.hp dq' dr e
          cases hk
          rw [e', R.bind_ok]
          split
          · trivial
          · rename_i hno2
            unfold chainK
            simp only []
            refine PX.bind a3 (vx_ok hC t a3.s) fun rd s4 w4 t2 M4 a4 l4 k4 ⟨rr4, fr4⟩ => ?_
            refine lB_ok a4 rr4 fun r2 dr2 => PX.ofR a4 fun z e => ?_
            obtain ⟨k, rfl, e'⟩ := cmpV_ok a4.s.hp (.f (l4.df (dr.sh (by simpa using hno2)))) dr2 e
            exact .inl ⟨_, e', .bl k⟩
        · rename_i e
          obtain ⟨k, hk, e'⟩ := cmpV_ok a3.s.hp dq' dr e
          cases hk
          rw [e', R.bind_ok]
          exact PX.val a3 (.bl _)
        · trivial
    · rename_i e
      obtain ⟨k, hk, e'⟩ := cmpV_ok a2.s.hp dp dq e
      cases hk
      rw [e', R.bind_ok]
      exact PX.val a2 (.bl _)
    · trivial
  | .and x y, b, s, w, st, M, sim => by
    unfold vx ev
    refine PX.bind (At.start sim) (vx_ok hC x sim) fun ra s1 w1 u M1 a1 l1 k1 ⟨rr, fr⟩ => ?_
    unfold andX andK
    split
    · rename_i e
      rw [ofO_bind (truX_ok a1 rr e)]
      unfold andB
      rw [if_pos rfl]
      exact PX.lift a1 (relR_back a1) (vx_ok hC y a1.s)
    · rename_i e
      rw [ofO_bind (truX_ok a1 rr e)]
      unfold andB
      rw [if_neg (by decide)]
      exact PX.ok a1 ⟨rr, fr⟩
    · trivial
  | .or x y, b, s, w, st, M, sim => by
    unfold vx ev
    refine PX.bind (At.start sim) (vx_ok hC x sim) fun ra s1 w1 u M1 a1 l1 k1 ⟨rr, fr⟩ => ?_
    unfold orX orK
    split
    · rename_i e
      rw [ofO_bind (truX_ok a1 rr e)]
      unfold orB
      rw [if_pos rfl]
      exact PX.ok a1 ⟨rr, fr⟩
    · rename_i e
      rw [ofO_bind (truX_ok a1 rr e)]
      unfold orB
      rw [if_neg (by decide)]
      exact PX.lift a1 (relR_back a1) (vx_ok hC y a1.s)
    · trivial
  | .ife c x y, b, s, w, st, M, sim => by
    unfold vx ev
    refine PX.bind (At.start sim) (vx_ok hC c sim) fun ra s1 w1 u M1 a1 l1 k1 ⟨rr, fr⟩ => ?_
    unfold ifX truK
    split
    · rename_i e
      rw [ofO_bind (truX_ok a1 rr e)]
      unfold ifB
      rw [if_pos rfl]
      exact PX.lift a1 (relR_back a1) (vx_ok hC x a1.s)
    · rename_i e
      rw [ofO_bind (truX_ok a1 rr e)]
      unfold ifB
      rw [if_neg (by decide)]
      exact PX.lift a1 (relR_back a1) (vx_ok hC y a1.s)
    · trivial
  | .tup es, b, s, w, st, M, sim => by
    unfold vx ev
    exact PX.bind (At.start sim) (vxs_ok hC es sim) fun ps s1 w1 us M1 a1 l1 k1 ⟨d, fr, _⟩ => tup_ok a1 d fr
  | .lst es, b, s, w, st, M, sim => by
    unfold vx ev
    exact PX.bind (At.start sim) (vxs_ok hC es sim) fun ps s1 w1 us M1 a1 l1 k1 ⟨d, fr, _⟩ => lst_ok a1 d fr
  | .dic es, b, s, w, st, M, sim => by
    unfold vx ev
    have a0 : At b M w s w st (M.new (.dct []) .tmp) := (At.start sim).next new_le new_tk sim.new
    refine PX.bind (M := M.new (.dct []) .tmp) a0 (vxs_ok hC es sim.new) fun ps s1 w1 us M1 a1 l1 k1 ⟨d, fr, nd⟩ => ?_
    obtain ⟨p1, p2⟩ := l1.tmp M.h.length (by simp [MS.new]) new_ow
    refine dic_ok a1 p1 (by rw [p2]; exact new_at) (fun h => absurd h (Nat.lt_irrefl _)) d (FrS.back (b := b) new_le fr) nd fun hm => ?_
    exact fr _ hm (by simp [MS.new]) new_ow
  | .call f es, b, s, w, st, M, sim => by
    unfold vx ev
    exact PX.bind (At.start sim) (vxs_ok hC es sim) fun ps s1 w1 us M1 a1 l1 k1 ⟨d, fr, _⟩ => call_ok hC a1 d fr
  | .new c es, b, s, w, st, M, sim => by
    unfold vx ev
    exact PX.bind (At.start sim) (vxs_ok hC es sim) fun ps s1 w1 us M1 a1 l1 k1 ⟨d, fr, _⟩ => new_ok hC a1 d fr
  | .meth o m es, b, s, w, st, M, sim => by
    unfold vx ev
    refine PX.bind (At.start sim) (vx_ok hC o sim) fun ra s1 w1 u M1 a1 l1 k1 ⟨rr, fr⟩ => ?_
    exact lB_ok a1 rr fun p d => meth_ok hC a1 d fun sim => vxs_ok hC es sim
  | .prim p es, b, s, w, st, M, sim => by
    unfold vx ev
    refine PX.bind (At.start sim) (vxr_ok hC es sim) fun rs s1 w1 us M1 a1 l1 k1 d => ?_
    unfold primX
    cases q : ldAll rs s1 w1 with
    | none => trivial
    | some vs => exact PX.ofR a1 fun z e => primP_ok a1.s.hp (ldAll_ok a1 d q) e
  | .pm p o es, b, s, w, st, M, sim => by
    unfold vx ev
    refine PX.bind (At.start sim) (vx_ok hC o sim) fun ra s1 w1 u M1 a1 l1 k1 ⟨rr, fr⟩ => ?_
    have plain : PX (relR st) b st M w (pmG p (evs C es st) u M1.h) (if pmOf p ra s1 w1 = true then (vxr V es s1 w1).bind (pmK p ra) else .stk) := by
      split
      · rename_i hT
        unfold pmG
        have hty : tyOkB M1.h p u = true := by
          unfold pmOf at hT
          cases q : ldB ra s1 w1 with
          | none => rw [q] at hT; cases hT
          | some x => rw [q] at hT; exact pmT_ok a1.s.hp (a1.s.ldB rr q) hT
        rw [if_pos hty]
        refine PX.bind a1 (vxr_ok hC es a1.s) fun rs s2 w2 us M2 a2 l2 k2 d => ?_
        unfold pmK
        cases q : ldB ra s2 w2 with
        | none => trivial
        | some x =>
          cases q2 : ldAll rs s2 w2 with
          | none => trivial
          | some vs => exact PX.ofR a2 fun z e => pmV_ok a2.s.hp (a2.s.ldB (RR.mono a1.s l2 k2 rr) q) (ldAll_ok a2 d q2) e
      · trivial
    cases ra with
    | v x =>
      have dp : ∀ k, x = .ref k → p = .dpop → PX (relR st) b st M w (pmG p (evs C es st) u M1.h) (if pmT' .dpop (.ref k) w1.H = true then (vxs V es s1 w1).bind (dpopX k) else .stk) := by
        rintro k rfl rfl
        split
        · rename_i hT
          unfold pmG
          have dd : DL M1 (.ref k) u := DO.dl rr
          rw [if_pos (pmT_ok a1.s.hp dd hT)]
          obtain ⟨n, rfl, hn⟩ := dd.r
          refine PX.bind a1 (vxs_ok hC es a1.s) fun ps s2 w2 us M2 a2 l2 k2 ⟨d, fr2, _⟩ => ?_
          exact dpop_ok a2 (l2.mu _ _ hn) d (fr2.back a1.l)
        · trivial
      cases p <;> first | exact plain | (cases x <;> first | exact plain | exact dp _ rfl rfl)
    | p q t =>
      have mt : pmOw (.p q t) s1 w1 = true → tyOkB M1.h .append u = true ∧ tyOkB M1.h .pop u = true ∧ tyOkB M1.h .extend u = true := fun h => by
        unfold pmOw at h
        split at h
        · rename_i xs e
          have dl := a1.s.ldB rr e
          obtain ⟨n, vs, rfl, hn, _⟩ := dl.ls
          simp only [tyOkB, hn, and_self]
        · cases h
      cases p with
      | append =>
        show PX _ _ _ _ _ _ (if pmOw (.p q t) s1 w1 = true then (vxs V es s1 w1).bind (mutX .append q t) else .stk)
        split
        · rename_i h
          unfold pmG
          rw [if_pos (mt h).1]
          refine PX.bind a1 (vxs_ok hC es a1.s) fun ps s2 w2 us M2 a2 l2 k2 ⟨d, fr2, _⟩ => ?_
          exact mutX_ok a2 (by simp) (RR.mono a1.s l2 k2 rr) d (fr2.back a1.l)
        · trivial
      | pop =>
        show PX _ _ _ _ _ _ (if pmOw (.p q t) s1 w1 = true then (vxs V es s1 w1).bind (mutX .pop q t) else .stk)
        split
        · rename_i h
          unfold pmG
          rw [if_pos (mt h).2.1]
          refine PX.bind a1 (vxs_ok hC es a1.s) fun ps s2 w2 us M2 a2 l2 k2 ⟨d, fr2, _⟩ => ?_
          exact mutX_ok a2 (by simp) (RR.mono a1.s l2 k2 rr) d (fr2.back a1.l)
        · trivial
      | extend =>
        show PX _ _ _ _ _ _ (if pmOw (.p q t) s1 w1 = true then (vxr V es s1 w1).bind (extX q t) else .stk)
        split
        · rename_i h
          unfold pmG
          rw [if_pos (mt h).2.2]
          refine PX.bind a1 (vxr_ok hC es a1.s) fun ps s2 w2 us M2 a2 l2 k2 d => ?_
          exact extX_ok a2 (RR.mono a1.s l2 k2 rr) d
        · trivial
      | _ => exact plain
  | .fld o f, b, s, w, st, M, sim => by
    unfold vx ev
    refine PX.bind (At.start sim) (vx_ok hC o sim) fun ra s1 w1 u M1 a1 l1 k1 ⟨rr, fr⟩ => ?_
    exact lB_ok a1 rr fun p d => fld_ok a1 d
  | .ix x y, b, s, w, st, M, sim => by
    unfold vx ev
    refine PX.bind (At.start sim) (vx_ok hC x sim) fun ra s1 w1 u M1 a1 l1 k1 ⟨rr, fr⟩ => ?_
    refine PX.bind a1 (vx_ok hC y a1.s) fun rb s2 w2 v M2 a2 l2 k2 ⟨rr2, fr2⟩ => ?_
    exact ld2_ok a2 (RR.mono a1.s l2 k2 rr) rr2 fun p q dp dq => ix_ok a2 dp dq
  | .sl x lo hi, b, s, w, st, M, sim => by
    unfold vx ev
    refine PX.bind (At.start sim) (vx_ok hC x sim) fun ra s1 w1 u M1 a1 l1 k1 ⟨rr, fr⟩ => ?_
    refine PX.bind a1 (vxo_ok hC lo a1.s) fun o s2 w2 o' M2 a2 l2 k2 e2 => ?_
    refine PX.bind a2 (vxo_ok hC hi a2.s) fun o3 s3 w3 o3' M3 a3 l3 k3 e3 => ?_
    have e2' : o = o' := e2
    have e3' : o3 = o3' := e3
    subst e2' e3'
    unfold slX3
    cases q : ldB ra s3 w3 with
    | none => trivial
    | some x => exact PX.ofR a3 fun z e => slV_ok (a3.s.ldB (RR.mono a2.s l3 k3 (RR.mono a1.s l2 k2 rr)) q) e
  | .lc elt tg it cond own, b, s, w, st, M, sim => by
    unfold vx ev
    refine PX.bind (At.start sim) (vxi_ok hC it sim) fun src s1 w1 ms M1 a1 l1 k1 ri => ?_
    exact lc_okV (Ms := M) a1 (step_okV (fun i hi => List.mem_append_right _ hi) (fun sim => vxc_ok hC cond sim) (fun sim => vx_ok hC elt sim)) l1 k1 ri
  | .gix k e, b, s, w, st, M, sim => by
    unfold vx ev
    refine PX.bind (At.start sim) (vx_ok hC e sim) fun ra s1 w1 u M1 a1 l1 k1 ⟨rr, fr⟩ => ?_
    refine lB_ok a1 rr fun p d => ?_
    unfold gixX gixG
    rw [hC.glob]
    cases C.glob k with
    | none => trivial
    | some g => exact PX.ofR a1 fun z e => .inl (gixV_ok _ d e)
  | .isi e t, b, s, w, st, M, sim => by
    unfold vx ev
    refine PX.bind (At.start sim) (vx_ok hC e sim) fun ra s1 w1 u M1 a1 l1 k1 ⟨rr, fr⟩ => ?_
    refine lB_ok a1 rr fun p d => ?_
    unfold isiX isiG
    refine PX.ofR a1 fun z e => ?_
    rw [Option.map_eq_some_iff] at e
    obtain ⟨k, e1, rfl⟩ := e
    rw [ofO_bind (isiV_ok a1.s.hp d e1)]
    exact .inl ⟨_, rfl, .bl k⟩
  | .catR x y yz, b, s, w, st, M, sim => by
    unfold vx ev
    refine PX.bind (At.start sim) (vx_ok hC x sim) fun ra s1 w1 u M1 a1 l1 k1 ⟨rr, fr⟩ => ?_
    refine PX.bind a1 (vx_ok hC y a1.s) fun rb s2 w2 v M2 a2 l2 k2 ⟨rr2, fr2⟩ => ?_
    exact ld2_ok a2 (RR.mono a1.s l2 k2 rr) rr2 fun p q dp dq => PX.ofR a2 fun z e => catRV_ok dp dq e
  | .maxD x y, b, s, w, st, M, sim => by
    unfold vx ev
    refine PX.bind (At.start sim) (vx_ok hC x sim) fun ra s1 w1 u M1 a1 l1 k1 ⟨rr, fr⟩ => ?_
    refine PX.bind a1 (vx_ok hC y a1.s) fun rb s2 w2 v M2 a2 l2 k2 ⟨rr2, fr2⟩ => ?_
    exact ld2_ok a2 (RR.mono a1.s l2 k2 rr) rr2 fun p q dp dq => PX.ofR a2 fun z e => maxDV_ok dp dq e
  | .rlst x y, b, s, w, st, M, sim => by
    unfold vx ev
    refine PX.bind (At.start sim) (vx_ok hC x sim) fun ra s1 w1 u M1 a1 l1 k1 ⟨rr, fr⟩ => ?_
    refine PX.bind a1 (vx_ok hC y a1.s) fun rb s2 w2 v M2 a2 l2 k2 ⟨rr2, fr2⟩ => ?_
    exact ld2_ok a2 (RR.mono a1.s l2 k2 rr) rr2 fun p q dp dq => PX.ofR a2 fun z e => rlV_ok dp dq e
  | .gdct _ kvs dd e, b, s, w, st, M, sim => by
    unfold vx ev
    refine PX.bind (At.start sim) (vx_ok hC e sim) fun ra s1 w1 u M1 a1 l1 k1 ⟨rr, fr⟩ => ?_
    refine lB_ok a1 rr fun p d => ?_
    unfold ggX
    exact PX.ofR a1 fun z e => ggV_ok d e
  | .fmt e k, b, s, w, st, M, sim => by
    unfold vx ev
    refine PX.bind (At.start sim) (vx_ok hC e sim) fun ra s1 w1 u M1 a1 l1 k1 ⟨rr, fr⟩ => ?_
    refine lB_ok a1 rr fun p d => ?_
    unfold fmtX
    exact PX.ofR a1 fun z e => fmtV_ok d e
  | .js es, b, s, w, st, M, sim => by
    unfold vx ev
    have p := vxs_ok hC es sim
    cases q : vxs V es s w with
    | stk => trivial
    | exc c vs s1 w1 => trivial
    | ok vs s1 w1 =>
      rw [q] at p
      obtain ⟨us, M1, e, l1, k1, sim1, d, fr, _⟩ := p
      rw [e]
      show PX _ b st M w ((R.ok us M1.h).bind jsF) ((VR.ok vs s1 w1).bind jsX)
      rw [R.bind_ok, VR.bind_ok]
      unfold jsX
      exact PX.ofR ((At.start sim).next l1 k1 sim1) fun z e => jsV_ok d e
theorem vxr_ok (hC : CallsOK C V) : ∀ (es : Es) {b : Nat} {s : VSl} {w : W} {st : Sl} {M : MS}, Sim b s w st M → PX (relRs st) b st M w (evs C es st M.h) (vxr V es s w)
  | .nil, b, s, w, st, M, sim => by unfold vxr evs; exact PX.ok (At.start sim) .nil
  | .cons e es, b, s, w, st, M, sim => by
    unfold vxr evs
    refine PX.bind (At.start sim) (vx_ok hC e sim) fun ra s1 w1 u M1 a1 l1 k1 ⟨rr, fr⟩ => ?_
    refine PX.bind a1 (vxr_ok hC es a1.s) fun rs s2 w2 us M2 a2 l2 k2 d => ?_
    exact PX.ok a2 (.cons (RR.mono a1.s l2 k2 rr) d)
theorem vxs_ok (hC : CallsOK C V) : ∀ (es : Es) {b : Nat} {s : VSl} {w : W} {st : Sl} {M : MS}, Sim b s w st M → PX relS b st M w (evs C es st M.h) (vxs V es s w)
  | .nil, b, s, w, st, M, sim => by
    unfold vxs evs
    exact PX.ok (At.start sim) ⟨.nil, fun n hn => (by cases hn), List.nodup_nil⟩
  | .cons e es, b, s, w, st, M, sim => by
    unfold vxs evs
    refine PX.bind (At.start sim) (vx_ok hC e sim) fun ra s1 w1 u M1 a1 l1 k1 ⟨rr, fr⟩ => ?_
    refine lEK_ok (F := consG (evs C es st)) a1 rr fr fun x s2 w2 M2 hh a2 l2 k2 d2 f2 => ?_
    refine PX.bind a2 (vxs_ok hC es a2.s) fun ps s3 w3 us M3 a3 l3 k3 ⟨d3, f3, n3⟩ => ?_
    refine PX.ok a3 ⟨.cons (l3.dt d2) d3, fun n hn => ?_, ?_⟩
    · unfold cellsO at hn
      rcases List.mem_append.mp hn with h | h
      · cases q : cellO x u with
        | none => rw [q] at h; cases h
        | some m =>
          rw [q] at h
          rw [List.mem_singleton.mp h]
          exact f2 m q
      · exact f3.back a2.l n h
    · unfold cellsO
      rw [List.nodup_append]
      refine ⟨by split <;> simp, n3, fun m hm n hn => ?_⟩
      cases q : cellO x u with
      | none => rw [q] at hm; cases hm
      | some m' =>
        rw [q] at hm
        rw [List.mem_singleton.mp hm]
        rintro rfl
        have t2 := cellO_tmp d2 q
        have hl : m' < M2.h.length := by
          cases d2 with
          | f d => cases d <;> cases q
          | l h1 h2 d => cases q; exact lt_of h2
        exact f3 m' hn hl t2
theorem vxo_ok (hC : CallsOK C V) : ∀ (e : Eo) {b : Nat} {s : VSl} {w : W} {st : Sl} {M : MS}, Sim b s w st M → PX relO b st M w (evo C e st M.h) (vxo V e s w)
  | .none, b, s, w, st, M, sim => by unfold vxo evo; exact PX.ok (At.start sim) rfl
  | .some e, b, s, w, st, M, sim => by
    unfold vxo evo
    refine PX.bind (At.start sim) (vx_ok hC e sim) fun ra s1 w1 u M1 a1 l1 k1 ⟨rr, fr⟩ => ?_
    refine lB_ok a1 rr fun p d => ?_
    cases p with
    | int i => obtain rfl := d.i; exact PX.ok a1 rfl
    | _ => trivial
theorem vxc_ok (hC : CallsOK C V) : ∀ (e : Eo) {b : Nat} {s : VSl} {w : W} {st : Sl} {M : MS}, Sim b s w st M → ∀ {γ δ : Type} {rel : MS → MS → W → δ → γ → Prop} {F : Bool → Hs → R γ} {K : RL → VSl → W → VR δ}, (∀ r s1 w1 M1 k, At b M w s1 w1 st M1 → truX r s1 w1 = some k → PX rel b st M w (F k M1.h) (K r s1 w1)) → (∀ r s w, truX r s w = none → K r s w = .stk) → PX rel b st M w ((etc C e st M.h).bind F) ((vxc V e s w).bind K)
  | .none, b, s, w, st, M, sim, _, _, rel, F, K, h, _ => by
    unfold vxc etc
    exact h _ _ _ _ true (At.start sim) rfl
  | .some e, b, s, w, st, M, sim, _, _, rel, F, K, h, h0 => by
    unfold vxc etc
    rw [R.bind_assoc]
    refine PX.bind (At.start sim) (vx_ok hC e sim) fun ra s1 w1 u M1 a1 l1 k1 ⟨rr, fr⟩ => ?_
    cases q : truX ra s1 w1 with
    | none => rw [h0 _ _ _ q]; trivial
    | some k =>
      unfold truG
      rw [ofO_bind (truX_ok a1 rr q)]
      exact h _ _ _ _ k a1 q
theorem vxi_ok (hC : CallsOK C V) : ∀ (i : I) {b : Nat} {s : VSl} {w : W} {st : Sl} {M : MS}, Sim b s w st M → PX relI b st M w (evi C i st M.h) (vxi V i s w)
  | .val e, b, s, w, st, M, sim => by
    unfold vxi evi
    exact PX.bind (At.start sim) (vx_ok hC e sim) fun ra s1 w1 u M1 a1 l1 k1 ⟨rr, fr⟩ => src_ok a1 rr
  | .rng1 e, b, s, w, st, M, sim => by
    unfold vxi evi
    exact PX.bind (At.start sim) (vx_ok hC e sim) fun ra s1 w1 u M1 a1 l1 k1 ⟨rr, fr⟩ => lB_ok a1 rr fun p d => rng1_ok a1 d
  | .rng2 x y, b, s, w, st, M, sim => by
    unfold vxi evi
    refine PX.bind (At.start sim) (vx_ok hC x sim) fun ra s1 w1 u M1 a1 l1 k1 ⟨rr, fr⟩ => ?_
    refine PX.bind a1 (vx_ok hC y a1.s) fun rb s2 w2 v M2 a2 l2 k2 ⟨rr2, fr2⟩ => ?_
    exact ld2_ok a2 (RR.mono a1.s l2 k2 rr) rr2 fun p q dp dq => rng2_ok a2 dp dq
  | .rng3 x y z, b, s, w, st, M, sim => by
    unfold vxi evi
    refine PX.bind (At.start sim) (vx_ok hC x sim) fun ra s1 w1 u M1 a1 l1 k1 ⟨rr, fr⟩ => ?_
    refine PX.bind a1 (vx_ok hC y a1.s) fun rb s2 w2 v M2 a2 l2 k2 ⟨rr2, fr2⟩ => ?_
    refine ld2_ok a2 (RR.mono a1.s l2 k2 rr) rr2 fun p q dp dq => ?_
    unfold r3K
    split
    · trivial
    · rename_i hno
      rw [not_or] at hno
      unfold rng3K
      refine PX.bind a2 (vx_ok hC z a2.s) fun rc s3 w3 t M3 a3 l3 k3 ⟨rr3, fr3⟩ => ?_
      exact lB_ok a3 rr3 fun r dr => rng3_ok a3 (.f (l3.df (dp.sh (by simpa using hno.1)))) (.f (l3.df (dq.sh (by simpa using hno.2)))) dr
  | .enu e, b, s, w, st, M, sim => by
    unfold vxi evi
    exact PX.bind (At.start sim) (vx_ok hC e sim) fun ra s1 w1 u M1 a1 l1 k1 ⟨rr, fr⟩ => enu_ok a1 rr
end
end
end MP

set_option Elab.async false
set_option linter.all false
set_option maxRecDepth 100000
set_option maxHeartbeats 4000000
set_option autoImplicit false
/-! VEl: statements, functions, the law. -/
namespace MP
open PySem PySem.Spec L2
def PO (b : Nat) (M0 : MS) (w0 : W) (mp : O) (vo : VO) : Prop := match vo with
  | .stk => True
  | .nx s w' => ∃ st' M', mp = .nx st' M'.h ∧ Le b M0 M' ∧ Tk w0 M0 w' M' ∧ Sim b s w' st' M'
  | .bk s w' => ∃ st' M', mp = .bk st' M'.h ∧ Le b M0 M' ∧ Tk w0 M0 w' M' ∧ Sim b s w' st' M'
  | .ct s w' => ∃ st' M', mp = .ct st' M'.h ∧ Le b M0 M' ∧ Tk w0 M0 w' M' ∧ Sim b s w' st' M'
  | .rt v w' => ∃ u M', mp = .rt u M'.h ∧ Le b M0 M' ∧ Tk w0 M0 w' M' ∧ HOK M' w' ∧ DO M' .tmp v u ∧ Fr M0 v u
  | .exc c vs _ w' => ∃ us M', mp = .exc c us M'.h ∧ Le b M0 M' ∧ Tk w0 M0 w' M' ∧ HOK M' w' ∧ DFs M' vs us
section
variable {b : Nat} {M0 M M1 : MS} {w0 w w1 : W} {s s1 : VSl} {st st1 : Sl} {C : Calls} {V : VCl}
theorem PO.bindS {α β : Type} {rel : MS → MS → W → β → α → Prop} {mp : R α} {ve : VR β} {F : α → Hs → O} {G : β → VSl → W → VO} (a : At b M0 w0 s w st M) (p : PX rel b st M w mp ve)
    (h : ∀ x s1 w1 u M1, At b M0 w0 s1 w1 st M1 → Le b M M1 → Tk w M w1 M1 → rel M M1 w1 x u → PO b M0 w0 (F u M1.h) (G x s1 w1)) : PO b M0 w0 (mp.st F) (ve.st G) := by
  cases ve with
  | stk => trivial
  | exc c vs s' w' =>
    obtain ⟨us, M', rfl, l, k, sim, d⟩ := p
    exact ⟨us, M', rfl, a.l.trans l, Tk.trans a.l l a.k k, sim.hp, d⟩
  | ok x s' w' =>
    obtain ⟨u, M', rfl, l, k, sim, r⟩ := p
    exact h x s' w' u M' (a.next l k sim) l k r
theorem PO.lift {mp : O} {vo : VO} (a : At b M0 w0 s w st M) (p : PO b M w mp vo) : PO b M0 w0 mp vo := by
  cases vo with
  | stk => trivial
  | nx s' w' => obtain ⟨st', M', rfl, l, k, sim⟩ := p; exact ⟨st', M', rfl, a.l.trans l, Tk.trans a.l l a.k k, sim⟩
  | bk s' w' => obtain ⟨st', M', rfl, l, k, sim⟩ := p; exact ⟨st', M', rfl, a.l.trans l, Tk.trans a.l l a.k k, sim⟩
  | ct s' w' => obtain ⟨st', M', rfl, l, k, sim⟩ := p; exact ⟨st', M', rfl, a.l.trans l, Tk.trans a.l l a.k k, sim⟩
  | rt v w' => obtain ⟨u, M', rfl, l, k, hp, d, f⟩ := p; exact ⟨u, M', rfl, a.l.trans l, Tk.trans a.l l a.k k, hp, d, Fr.back a.l f⟩
  | exc c vs s' w' => obtain ⟨us, M', rfl, l, k, hp, d⟩ := p; exact ⟨us, M', rfl, a.l.trans l, Tk.trans a.l l a.k k, hp, d⟩
theorem PO.nx (a : At b M0 w0 s w st M) : PO b M0 w0 (.nx st M.h) (.nx s w) := ⟨st, M, rfl, a.l, a.k, a.s⟩
/-- a slot gets a value without an owner -/
theorem Sim.setF (sim : Sim b s w st M) {p : PV} {v : Val} (d : DF M p v) (i : Nat) : Sim b (s.set i (some p)) w (st.set i (some v)) M :=
  ⟨sim.hp, by rw [List.length_set, List.length_set]; exact sim.len, fun j q hj => by
    by_cases c : i = j
    · subst c
      have hl := (List.getElem?_eq_some_iff.mp hj).1
      rw [List.length_set] at hl
      rw [List.getElem?_set_self hl] at hj
      cases hj
      exact ⟨v, List.getElem?_set_self (by rw [← sim.len]; exact hl), .f d⟩
    · rw [List.getElem?_set_ne c] at hj ⊢
      exact sim.sl j q hj⟩
theorem tag_out {o : Option Nat} {t0 : Tag} {n : Nat} (h : (M.tag o t0).ow n ≠ M.ow n) : o = some n := by
  by_cases c : o = some n
  · exact c
  · exact absurd (if_neg c) h
theorem At.put (a : At b M0 w0 s w st M) {p : PV} {v : Val} (d : DO M .tmp p v) (f : Fr M0 p v) (i : Nat) : ∃ M', M'.h = M.h ∧ At b M0 w0 (s.set i (some p)) w (st.set i (some v)) M' := by
  have ht : ∀ n, cellO p v = some n → M.ow n = .tmp := fun n e => cellO_tmp d e
  have a' : At b M0 w0 s w st (M.tag (cellO p v) (.pl b (.sl i))) := a.retag rfl rfl (tag_keep ht) fun n hn => ⟨ht n (tag_out hn), f n (tag_out hn)⟩
  have dp := tag_do (t0 := .pl b (.sl i)) d
  refine ⟨M.tag (cellO p v) (.pl b (.sl i)), rfl, a'.l, a'.k, a'.s.hp, by rw [List.length_set, List.length_set]; exact a'.s.len, fun j q hj => ?_⟩
  by_cases c : i = j
  · subst c
    have hl := (List.getElem?_eq_some_iff.mp hj).1
    rw [List.length_set] at hl
    rw [List.getElem?_set_self hl] at hj
    cases hj
    exact ⟨v, List.getElem?_set_self (by rw [← a.s.len]; exact hl), dp⟩
  · rw [List.getElem?_set_ne c] at hj ⊢
    exact a'.s.sl j q hj
theorem lE_st (a : At b M0 w0 s w st M) {r : RL} {u : Val} (rr : RR M st w r u) (fr : FrR M0 r u) {F : Val → Hs → O} {K : PV → VSl → W → VO}
    (h : ∀ x s' w' M', M'.h = M.h → At b M0 w0 s' w' st M' → DO M' .tmp x u → Fr M0 x u → PO b M0 w0 (F u M'.h) (K x s' w')) : PO b M0 w0 (F u M.h) ((lE r s w).st K) := by
  have := esc_ok a rr fr
  cases e : lE r s w with
  | stk => trivial
  | exc _ _ _ _ => rw [e] at this; exact this.elim
  | ok x s' w' =>
    rw [e] at this
    obtain ⟨M', hh, a', l', k', d, f⟩ := this
    have := h x s' w' M' hh a' d f
    rw [hh] at this
    exact this
theorem asg_ok (a : At b M0 w0 s w st M) {t : Tg} {r : RL} {u : Val} (rr : RR M st w r u) (fr : FrR M0 r u) : PO b M0 w0 (asgK t st u M.h) (asgV t r s w) := by
  unfold asgV
  refine lE_st (F := asgK t st) a rr fr fun x s' w' M' hh a' d f => ?_
  unfold asgV2 asgK
  cases t with
  | nm i =>
    obtain ⟨M2, h2, a2⟩ := a'.put d f i
    rw [← h2]
    exact PO.nx a2
  | tup js =>
    cases e : setTV (.tup js) x s' with
    | none => trivial
    | some s2 =>
      have hno : isOw x = false := by cases x <;> first | rfl | cases e
      obtain ⟨st1, h1, h2, _, _⟩ := setT_okV a'.s (d.sh hno) e
      rw [h1]
      exact ⟨st1, M', rfl, a'.l, a'.k, h2⟩
/-- a field, an entry gets a value -/
theorem fldput_ok (hC : CallsOK C V) (a : At b M0 w0 s w st M) {k f : Nat} {p : PV} {v : Val} {n : Nat} (hn : M.mu[k]? = some n) (d : DO M .tmp p v) (fr : Fr M0 p v) : PO b M0 w0 (nxO (setFld C.fldok (.ref n) f v M.h) st) (nxV (setFV V.fldok k f p w w.H.ob[k]?) s) := by
  unfold setFV
  split
  · rename_i c fs hv
    obtain ⟨n', gs, a1, a2, a3, a4, a5⟩ := a.s.hp.ins hv
    rw [hn] at a1
    cases a1
    split
    · rename_i hc
      have ht : ∀ m, cellO p v = some m → M.ow m = .tmp := fun m e => cellO_tmp d e
      have a' : At b M0 w0 s w st (M.tag (cellO p v) (.pl 0 (.fl k f))) := a.retag rfl rfl (tag_keep ht) fun m hm => ⟨ht m (tag_out hm), fr m (tag_out hm)⟩
      have K1 := tag_keep (t := .pl 0 (.fl k f)) ht
      have dp := tag_do (t0 := .pl 0 (.fl k f)) d
      have ho : (M.tag (cellO p v) (.pl 0 (.fl k f))).ow n = .obj := (K1.at_ n (lt_of a3) (by rw [a2]; simp)).1.trans a2
      have K2 := put_obj_keep (g := .ins c (MP.fput f v gs)) ho
      have g1 : GD (M.tag (cellO p v) (.pl 0 (.fl k f))) (.fl k) (vfput f p fs) (MP.fput f v gs) := GD.fput K1 (by simp) (fun _ _ => by simp) dp a4 a5
      have A := obj_upd (o' := .ins c (vfput f p fs)) (g := .ins c (MP.fput f v gs)) a' (K1.mu _ _ hn) hv ⟨MP.fput f v gs, put_at (lt_of a3), g1.keep K2 (by simp) (fun _ _ => by simp), (vfput_keys f p fs a5).1⟩
      have em : setFld C.fldok (.ref n) f v M.h = some (M.h.set n (.ins c (MP.fput f v gs))) := by
        simp only [setFld, a3]
        rw [if_pos ⟨by rw [← a4.len]; exact hc.1, by rw [← hC.fld]; exact hc.2⟩]
      rw [em]
      exact PO.nx A
    · trivial
  · trivial
theorem fldV_ok (hC : CallsOK C V) (a : At b M0 w0 s w st M) {f : Nat} {r : RL} {u : Val} {fo : Hs → R Val} {vo : VSl → W → VR RL} (rr : RR M st w r u) (fr : FrR M0 r u) (ih : ∀ {s w M}, Sim b s w st M → PX (relR st) b st M w (fo M.h) (vo s w)) :
    PO b M0 w0 (fldS1 C f fo st u M.h) (fldV V f vo r s w) := by
  unfold fldV
  refine lE_st (F := fldS1 C f fo st) a rr fr fun x s' w' M' hh a' d fx => ?_
  unfold fldS1
  refine PO.bindS a' (ih a'.s) fun ro s2 w2 uo M2 a2 l2 k2 ⟨rr2, _⟩ => ?_
  unfold fldV2 fldS2
  cases q : ldB ro s2 w2 with
  | none => trivial
  | some y =>
    have dl := a2.s.ldB rr2 q
    cases y with
    | ref k =>
      obtain ⟨n, rfl, hn⟩ := dl.r
      exact fldput_ok hC a2 hn (l2.dt d) fx
    | _ => trivial
theorem Fr.shr' {p : PV} {v : Val} (h : Fr M0 p v) : Fr M0 p v := h
/-- o[i] = v -/
theorem sto_ok (a : At b M0 w0 s w st M) {ro : RL} {x : Val} {y v : PV} {yv u : Val} (rr : RR M st w ro x) (dy : DL M y yv) (dv : DO M .tmp v u) (fv : Fr M0 v u) :
    PO b M0 w0 (nxO (MP.setF x yv u M.h) st) (nxV2 (stoV ro y v s w)) := by
  unfold stoV
  split
  · rename_i k
    have dl : DL M (.ref k) x := DO.dl rr
    obtain ⟨n, rfl, hn⟩ := dl.r
    unfold stoR
    split
    · rename_i kvs hv
      obtain ⟨n', gs, a1, a2, a3, a4, a5⟩ := a.s.hp.dct hv
      rw [hn] at a1
      cases a1
      unfold stoD
      cases qk : toKyV y with
      | none => trivial
      | some key =>
        simp only []
        split
        · rename_i hc
          have ky := toKy_P dy qk
          have ht : ∀ m, cellO v u = some m → M.ow m = .tmp := fun m e => cellO_tmp dv e
          have a' : At b M0 w0 s w st (M.tag (cellO v u) (.pl 0 (.en k key))) := a.retag rfl rfl (tag_keep ht) fun m hm => ⟨ht m (tag_out hm), fv m (tag_out hm)⟩
          have K1 := tag_keep (t := .pl 0 (.en k key)) ht
          have dp := tag_do (t0 := .pl 0 (.en k key)) dv
          have ho : (M.tag (cellO v u) (.pl 0 (.en k key))).ow n = .obj := (K1.at_ n (lt_of a3) (by rw [a2]; simp)).1.trans a2
          have K2 := put_obj_keep (g := .dct (dput gs key u)) ho
          have g1 : GD (M.tag (cellO v u) (.pl 0 (.en k key))) (.en k) (vput kvs key v) (dput gs key u) := GD.eput K1 (by simp) (fun _ _ => by simp) dp a4 a5
          have A := obj_upd (o' := .dct (vput kvs key v)) (g := .dct (dput gs key u)) a' (K1.mu _ _ hn) hv ⟨dput gs key u, put_at (lt_of a3), g1.keep K2 (by simp) (fun _ _ => by simp), (vput_keys key v kvs a5).1⟩
          have em : MP.setF (.ref n) yv u M.h = some (M.h.set n (.dct (dput gs key u))) := by
            simp only [MP.setF, a3]
            rw [ky]
            simp only []
            rw [if_pos (by rw [← a4.len]; exact hc)]
          rw [em]
          exact PO.nx A
        · trivial
    · trivial
  · rename_i q t
    split
    · rename_i hk
      unfold stoQ
      split
      · rename_i xs e
        unfold stoL
        cases y with
        | int i =>
          obtain rfl := dy.i
          simp only []
          cases qi : ixN xs.length i with
          | none => trivial
          | some j =>
            simp only []
            unfold stoP
            simp only []
            cases e' : setP q (.lst .ow (xs.set j v.shr)) 1 s w with
            | none => trivial
            | some sw =>
              obtain ⟨s', w'⟩ := sw
              obtain ⟨M', hh, a', K, ds⟩ := shr1_at a dv fv
              have rr' : RR M' st w (.p q t) x := rr.same hh K.mu
              obtain ⟨n, vs, rfl, h1, h2, d1, F⟩ := a'.s.place rr' hk e e'
              obtain ⟨sim, le, tk, _, _⟩ := F (vs.set j u) (d1.set j ds) (fun h => absurd h (by decide)) (fun _ => rfl)
              have em : MP.setF (.ref n) (.int i) u M.h = some (M'.put n (.lst (vs.set j u)) (tgO b q .ow)).h := by
                rw [← hh]
                simp only [MP.setF, h2]
                rw [← d1.len, qi]
                rfl
              rw [em]
              exact PO.nx (a'.next le tk sim)
        | _ => trivial
      · trivial
    · trivial
  · trivial
theorem aug_ok (a : At b M0 w0 s w st M) {i : Nat} {op : Operator} {r : RL} {y x : Val} (hx : st[i]? = some (some x)) (rr : RR M st w r y) : PO b M0 w0 (augK i op st x y M.h) (augV2 i op r s w) := by
  unfold augV2
  split
  · rename_i py px e1 e2
    have dy := a.s.ldB rr e1
    have rs : RR M st w (.p (.sl i) 0) x := hx
    have dx := a.s.at_ rs rfl e2
    unfold augV3
    split
    · rename_i xs
      split
      · rename_i ys
        split
        · rename_i hl
          obtain ⟨m, ws, rfl, hm, dw⟩ := dy.ls
          obtain ⟨n, vs, rfl, h1, h2, d1, F⟩ := a.s.place (q := .sl i) (t := 0) (ps' := xs ++ ys) (o' := .ow) (d := 1) rs rfl e2 rfl
          obtain ⟨sim, le, tk, _, _⟩ := F (vs ++ ws) (d1.app dw) (fun h => absurd h (by decide)) (fun _ => rfl)
          have em : augK i .Add st (.ref n) (.ref m) M.h = .nx st (M.put n (.lst (vs ++ ws)) (tgO b (.sl i) .ow)).h := by
            unfold augK
            simp only [ipF, h2, hm]
            rw [if_pos (by rw [← d1.len, ← dw.len]; exact hl)]
            show O.nx (st.set i (some (.ref n))) _ = _
            have : st.set i (some (.ref n)) = st := by
              refine List.ext_getElem? fun j => ?_
              by_cases c : i = j
              · subst c
                rw [List.getElem?_set_self (List.getElem?_eq_some_iff.mp hx).1, hx]
              · rw [List.getElem?_set_ne c]
            rw [this]
            rfl
          rw [em]
          exact PO.nx (a.next le tk sim)
        · trivial
      · trivial
    · rename_i hno
      cases q : ipV op px py with
      | none => trivial
      | some z =>
        obtain ⟨t, e3, d3⟩ := ipV_ok dx.dl dy q
        unfold augK
        rw [e3]
        exact PO.nx ⟨a.l, a.k, a.s.setF d3 i⟩
  · trivial
theorem af_ok (hC : CallsOK C V) (a : At b M0 w0 s w st M) {f : Nat} {op : Operator} {ro : RL} {x : Val} {fe : Hs → R Val} {ve : VSl → W → VR RL} (rr : RR M st w ro x) (ih : ∀ {s w M}, Sim b s w st M → PX (relR st) b st M w (fe M.h) (ve s w)) :
    PO b M0 w0 (afS1 C f op fe st x M.h) (afV V f op ve ro s w) := by
  unfold afV
  cases q : ldB ro s w with
  | none => trivial
  | some y =>
    have dl := a.s.ldB rr q
    simp only []
    cases y with
    | ref k =>
      obtain ⟨n, rfl, hn⟩ := dl.r
      unfold afV1
      simp only []
      cases e : obF f w.H.ob[k]? with
      | none => trivial
      | some v =>
        simp only []
        have e0 := e
        unfold obF at e
        split at e
        · rename_i c fs hv
          obtain ⟨n', gs, a1, a2, a3, a4, a5⟩ := a.s.hp.ins hv
          rw [hn] at a1
          cases a1
          obtain ⟨tv, g1, g2⟩ := lookup_g a4 e
          have em : afS1 C f op fe st (.ref n) M.h = (fe M.h).st (afS3 C f op st (.ref n) M.h tv) := by
            unfold afS1
            simp only [fldF, a3]
            unfold fget
            rw [g1]
            rfl
          rw [em]
          unfold afV2
          split
          · trivial
          · rename_i hno
            have dv := g2.sh (by simpa using hno)
            refine PO.bindS a (ih a.s) fun re s2 w2 ye M2 b2 l2 k2 ⟨rr2, _⟩ => ?_
            unfold afV3
            cases q2 : ldB re s2 w2 with
            | none => trivial
            | some py =>
              have dy := b2.s.ldB rr2 q2
              simp only []
              split
              · rename_i htt
                unfold afV4
                cases q3 : ipV op v py with
                | none => trivial
                | some z =>
                  obtain ⟨t, e3, d3⟩ := ipV_ok (.f (l2.df dv)) dy q3
                  unfold afS3
                  rw [e3]
                  show PO b M0 w0 (afS4 C f st (.ref n) M.h t M2.h) _
                  unfold afS4
                  have hcl : clsF (.ref n) M2.h = clsF (.ref n) M.h := by
                    unfold clsF
                    simp only []
                    rw [k2.o htt n (lt_of a3) a2]
                  rw [if_pos hcl]
                  exact fldput_ok hC b2 (l2.mu _ _ hn) (.f d3) (Fr.df d3)
              · trivial
        · cases e
    | _ => trivial
end
end MP

set_option Elab.async false
set_option linter.all false
set_option maxRecDepth 100000
set_option maxHeartbeats 4000000
set_option autoImplicit false
/-! VEm: every statement, functions, the law. -/
namespace MP
open PySem PySem.Spec L2
section
variable {b : Nat} {M0 M M1 : MS} {w0 w w1 : W} {s s1 : VSl} {st st1 : Sl} {C : Calls} {V : VCl}
theorem it_ok (a : At b M0 w0 s w st M) {x y z : PV} {u v : Val} (dx : DL M x u) (dy : DL M y v) (e : itV x y w.H = some z) : ∃ t, gtF u v M.h = .ok t M.h ∧ DF M z t := by
  cases x with
  | lst o ps =>
    cases y with
    | int i =>
      obtain ⟨n, vs, rfl, hn, dv⟩ := dx.ls; obtain rfl := dy.i
      obtain ⟨t, g1, g2⟩ := dv.atI e
      exact ⟨t, by simp only [gtF, hn, ixL]; rw [g1]; rfl, g2⟩
    | _ => cases e
  | ref k =>
    obtain ⟨n, rfl, hn⟩ := dx.r
    have e0 : (match toKyV y with
      | some key => plainO (obE key w.H.ob[k]?)
      | none => none) = some z := by cases y <;> exact e
    cases qk : toKyV y with
    | none => rw [qk] at e0; cases e0
    | some key =>
      rw [qk] at e0
      have ky := toKy_P dy qk
      simp only at e0
      unfold plainO at e0
      split at e0
      · rename_i p hp
        split at e0
        · cases e0
        · rename_i hno
          cases e0
          unfold obE at hp
          split at hp
          · rename_i kvs hv
            obtain ⟨n', gs, a1, a2, a3, a4, a5⟩ := a.s.hp.dct hv
            rw [hn] at a1
            cases a1
            obtain ⟨tv, g1, g2⟩ := vget_g a4 hp
            exact ⟨tv, by simp only [gtF, a3]; rw [ky]; simp only []; rw [g1]; rfl, g2.sh (by simpa using hno)⟩
          · cases hp
      · cases e0
  | _ => cases y <;> cases e
theorem as_ok (a : At b M0 w0 s w st M) {op : Operator} {ro : RL} {x : Val} {fi fe : Hs → R Val} {vi ve : VSl → W → VR RL} (rr : RR M st w ro x) (ihi : ∀ {s w M}, Sim b s w st M → PX (relR st) b st M w (fi M.h) (vi s w)) (ihe : ∀ {s w M}, Sim b s w st M → PX (relR st) b st M w (fe M.h) (ve s w)) :
    PO b M0 w0 (asS1 op fi fe st x M.h) (asV1 op vi ve ro s w) := by
  unfold asV1 asS1
  refine PO.bindS a (ihi a.s) fun ri s1 w1 y M1 a1 l1 k1 ⟨rri, _⟩ => ?_
  have rr1 := RR.mono a.s l1 k1 rr
  unfold asV2 asS2
  split
  · rename_i px py e1 e2
    have dx := a1.s.ldB rr1 e1
    have dy := a1.s.ldB rri e2
    unfold asV2b
    cases e3 : itV px py w1.H with
    | none => trivial
    | some z =>
      obtain ⟨t, g1, g2⟩ := it_ok a1 dx dy e3
      rw [g1]
      simp only []
      split
      · trivial
      · rename_i hno
        have dy' := dy.sh (by simpa using hno)
        show PO b M0 w0 ((fe M1.h).st (asS4 op st x y t)) _
        refine PO.bindS a1 (ihe a1.s) fun re s2 w2 ze M2 a2 l2 k2 ⟨rre, _⟩ => ?_
        unfold asV3
        cases e4 : ldB re s2 w2 with
        | none => trivial
        | some pz =>
          have dz := a2.s.ldB rre e4
          simp only []
          unfold asV4
          cases e5 : ipV op z pz with
          | none => trivial
          | some pu =>
            obtain ⟨tu, g3, g4⟩ := ipV_ok (.f (l2.df g2)) dz e5
            unfold asS4
            rw [g3]
            exact sto_ok a2 (RR.mono a1.s l2 k2 rr1) (.f (l2.df dy')) (.f g4) (Fr.df g4)
  · trivial
theorem del_ok (a : At b M0 w0 s w st M) {ro : RL} {x : Val} {fi : Hs → R Val} {vi : VSl → W → VR RL} (rr : RR M st w ro x) (ihi : ∀ {s w M}, Sim b s w st M → PX (relR st) b st M w (fi M.h) (vi s w)) :
    PO b M0 w0 (delS1 fi st x M.h) (delV1 vi ro s w) := by
  unfold delV1 delS1
  refine PO.bindS a (ihi a.s) fun ri s1 w1 y M1 a1 l1 k1 ⟨rri, _⟩ => ?_
  have rr1 := RR.mono a.s l1 k1 rr
  unfold delV2
  split
  · rename_i k py e1 e2
    have dx := a1.s.ldB rr1 e1
    have dy := a1.s.ldB rri e2
    obtain ⟨n, rfl, hn⟩ := dx.r
    unfold delV3
    split
    · rename_i kvs key hv hkey
      split
      · rename_i hs
        obtain ⟨n', gs, a1', a2, a3, a4, a5⟩ := a1.s.hp.dct hv
        rw [hn] at a1'
        cases a1'
        have ky := toKy_P dy hkey
        have K := put_obj_keep (M := M1) (g := .dct (ddel gs key)) a2
        have A := obj_upd (o' := .dct (vdel kvs key)) (g := .dct (ddel gs key)) a1 hn hv ⟨ddel gs key, put_at (lt_of a3), (a4.del).keep K (by simp) fun _ _ => by simp, vdel_nd key a5⟩
        have hs' : (dget gs key).isSome = true := by
          cases q : vget kvs key with
          | none => rw [q] at hs; cases hs
          | some p => obtain ⟨tv, g1, _⟩ := vget_g a4 q; rw [g1]; rfl
        have em : delF (.ref n) y M1.h = some (M1.put n (.dct (ddel gs key)) .obj).h := by
          simp only [delF, a3]
          rw [ky]
          simp only []
          rw [if_pos hs']
          rfl
        unfold delS2
        rw [em]
        exact PO.nx A
      · trivial
    · trivial
  · trivial
theorem ret_ok (a : At b M0 w0 s w st M) {r : RL} {u : Val} (rr : RR M st w r u) (fr : FrR M0 r u) : PO b M0 w0 (retK u M.h) (retV r s w) := by
  have gen : ∀ q t, r = .p q t → PO b M0 w0 (retK u M.h) ((lE r s w).st retV2) := fun q t _ => lE_st (F := retK) a rr fr fun x s' w' M' hh a' d f => ⟨u, M', rfl, a'.l, a'.k, a'.s.hp, d, f⟩
  cases r with
  | v x => exact ⟨u, M, rfl, a.l, a.k, a.s.hp, rr, fr⟩
  | p q t =>
    cases q with
    | sl i =>
      unfold retV
      simp only []
      unfold retS
      split
      · rename_i xs e
        obtain ⟨n, vs, rfl, h1, h2, dv⟩ := (a.s.at_ (q := .sl i) (t := t) rr rfl e).place
        have K : Keep (fun t => t ≠ tgP b (.sl i)) M ⟨M.h, M.mu, fun m => if m = n then .tmp else M.ow m⟩ := ⟨Nat.le_refl _, fun _ _ h => h, fun m hm hp => by
          refine ⟨?_, rfl⟩
          show (if m = n then Tag.tmp else M.ow m) = M.ow m
          rw [if_neg fun c => hp (by rw [c]; exact h1)]⟩
        have le : Le b M ⟨M.h, M.mu, fun m => if m = n then .tmp else M.ow m⟩ := K.le fun t => std_tg
        refine ⟨.ref n, ⟨M.h, M.mu, fun m => if m = n then .tmp else M.ow m⟩, rfl, a.l.trans le, Tk.trans a.l le a.k ⟨Nat.le_refl _, fun _ m hm ho => rfl, Nat.le_refl _, fun _ m q hm hq ho => ⟨rfl, .inl ?_⟩⟩, ?_, ?_, ?_⟩
        · refine (K.at_ m hm ?_).1.trans ho
          rw [ho]
          intro z
          have : Tag.pl 0 q = Tag.pl b (.sl i) := z
          cases this
          exact hq rfl
        · exact a.s.hp.keep K (by simp [tgP]) (by simp [tgP]) (by simp [tgP]) (fun q hq => by
            intro z
            have : Tag.pl 0 q = Tag.pl b (.sl i) := z
            cases this
            exact hq rfl) a.s.hp.dr rfl
        · exact .l (if_pos rfl) h2 (le.dfs dv)
        · intro m hm hl ht
          cases hm
          have := (a.l.tmp n hl ht).1
          rw [h1] at this
          cases this
      · trivial
    | fl k f => exact gen _ _ rfl
    | en k f => exact gen _ _ rfl
/-! loops -/
def BodyOK (fb : Sl → Hs → O) (vb : VSl → W → VO) : Prop := ∀ {b : Nat} {s : VSl} {w : W} {st : Sl} {M : MS}, Sim b s w st M → PO b M w (fb st M.h) (vb s w)
theorem for_okV {t : Tg} {fb : Sl → Hs → O} {vb : VSl → W → VO} (hb : BodyOK fb vb) {g : Option Nat} {src : Src} {Ms : MS} {ws : W}
    (hg : ∀ (b' : Nat) (M2 : MS) (w2 : W), Le b' Ms M2 → Tk ws Ms w2 M2 → grd g w2 = true → src.ok M2.h = true) :
    ∀ {items : List PV} {mitems : List Val} {s : VSl} {w : W} {st : Sl} {M : MS}, At b Ms ws s w st M → DFs M items mitems → PO b Ms ws (forV (forK t fb) src mitems st M.h) (vforV (forKV t vb) g items s w)
  | [], _, s, w, st, M, a, d => by
    cases d
    unfold vforV forV
    by_cases h : grd g w = true
    · rw [if_pos h, if_pos (hg b M w a.l a.k h)]
      exact PO.nx a
    · rw [if_neg h]; trivial
  | x :: items, _, s, w, st, M, a, d => by
    cases d with
    | cons d1 d2 =>
      rename_i v vs
      unfold vforV forV
      by_cases h : grd g w = true
      · rw [if_pos h, if_pos (hg b M w a.l a.k h)]
        unfold forKV forK
        cases e : setTV t x s with
        | none => trivial
        | some s2 =>
          obtain ⟨st2, h1, h2, _, _⟩ := setT_okV a.s d1 e
          rw [h1]
          simp only []
          have P := hb h2
          cases q : vb s2 w with
          | stk => trivial
          | nx s3 w3 =>
            rw [q] at P
            obtain ⟨st3, M3, e3, l3, k3, sim3⟩ := P
            rw [e3]
            exact for_okV hb hg (a.next l3 k3 sim3) (l3.dfs d2)
          | ct s3 w3 =>
            rw [q] at P
            obtain ⟨st3, M3, e3, l3, k3, sim3⟩ := P
            rw [e3]
            exact for_okV hb hg (a.next l3 k3 sim3) (l3.dfs d2)
          | bk s3 w3 =>
            rw [q] at P
            obtain ⟨st3, M3, e3, l3, k3, sim3⟩ := P
            rw [e3]
            exact PO.nx (a.next l3 k3 sim3)
          | rt v3 w3 =>
            rw [q] at P
            obtain ⟨u3, M3, e3, l3, k3, hp3, d3, f3⟩ := P
            rw [e3]
            exact ⟨u3, M3, rfl, a.l.trans l3, Tk.trans a.l l3 a.k k3, hp3, d3, Fr.back a.l f3⟩
          | exc c3 vs3 s3 w3 =>
            rw [q] at P
            obtain ⟨us3, M3, e3, l3, k3, hp3, d3⟩ := P
            rw [e3]
            exact ⟨us3, M3, rfl, a.l.trans l3, Tk.trans a.l l3 a.k k3, hp3, d3⟩
      · rw [if_neg h]; trivial
theorem wh_okV {mt : Sl → Hs → R Val} {vt : VSl → W → VR RL} {fb : Sl → Hs → O} {vb : VSl → W → VO} (ht : ∀ {b : Nat} {s : VSl} {w : W} {st : Sl} {M : MS}, Sim b s w st M → PX (relR st) b st M w (mt st M.h) (vt s w)) (hb : BodyOK fb vb) {Ms : MS} {ws : W} :
    ∀ (n : Nat) {s : VSl} {w : W} {st : Sl} {M : MS}, At b Ms ws s w st M → PO b Ms ws (whV (fun st h => (mt st h).bind truG) fb n st M.h) (vwhV vt vb n s w)
  | 0, s, w, st, M, a => trivial
  | n + 1, s, w, st, M, a => by
    unfold vwhV whV
    have e0 : ∀ (r : R Val) (f : Bool → Hs → O), (r.bind truG).st f = r.st fun v h => (truG v h).st f := fun r f => by cases r <;> rfl
    rw [e0]
    refine PO.bindS a (ht a.s) fun r s1 w1 u M1 a1 l1 k1 ⟨rr, _⟩ => ?_
    cases e : truX r s1 w1 with
    | none => trivial
    | some k =>
      have et : truG u M1.h = .ok k M1.h := by unfold truG; rw [truX_ok a1 rr e]; rfl
      rw [et]
      cases k with
      | false =>
        rw [R.st_ok, if_neg (by decide)]
        exact PO.nx a1
      | true =>
        rw [R.st_ok, if_pos rfl]
        have P := hb a1.s
        cases q : vb s1 w1 with
        | stk => trivial
        | nx s3 w3 =>
          rw [q] at P
          obtain ⟨st3, M3, e3, l3, k3, sim3⟩ := P
          rw [e3]
          exact wh_okV ht hb n (a1.next l3 k3 sim3)
        | ct s3 w3 =>
          rw [q] at P
          obtain ⟨st3, M3, e3, l3, k3, sim3⟩ := P
          rw [e3]
          exact wh_okV ht hb n (a1.next l3 k3 sim3)
        | bk s3 w3 =>
          rw [q] at P
          obtain ⟨st3, M3, e3, l3, k3, sim3⟩ := P
          rw [e3]
          exact PO.nx (a1.next l3 k3 sim3)
        | rt v3 w3 =>
          rw [q] at P
          obtain ⟨u3, M3, e3, l3, k3, hp3, d3, f3⟩ := P
          rw [e3]
          exact ⟨u3, M3, rfl, a1.l.trans l3, Tk.trans a1.l l3 a1.k k3, hp3, d3, Fr.back a1.l f3⟩
        | exc c3 vs3 s3 w3 =>
          rw [q] at P
          obtain ⟨us3, M3, e3, l3, k3, hp3, d3⟩ := P
          rw [e3]
          exact ⟨us3, M3, rfl, a1.l.trans l3, Tk.trans a1.l l3 a1.k k3, hp3, d3⟩
mutual
theorem vex_ok (hC : CallsOK C V) : ∀ (x : S) {b : Nat} {s : VSl} {w : W} {st : Sl} {M : MS}, Sim b s w st M → PO b M w (ex C x st M.h) (vex V x s w)
  | .expr e, b, s, w, st, M, sim => by
    unfold vex ex
    exact PO.bindS (At.start sim) (vx_ok hC e sim) fun r s1 w1 u M1 a1 l1 k1 _ => PO.nx a1
  | .asg t e, b, s, w, st, M, sim => by
    unfold vex ex
    exact PO.bindS (At.start sim) (vx_ok hC e sim) fun r s1 w1 u M1 a1 l1 k1 ⟨rr, fr⟩ => asg_ok a1 rr fr
  | .fld o f e, b, s, w, st, M, sim => by
    unfold vex ex
    exact PO.bindS (At.start sim) (vx_ok hC e sim) fun r s1 w1 u M1 a1 l1 k1 ⟨rr, fr⟩ => fldV_ok hC a1 rr fr fun sim => vx_ok hC o sim
  | .sub o i e, b, s, w, st, M, sim => by
    unfold vex ex
    refine PO.bindS (At.start sim) (vx_ok hC e sim) fun r s1 w1 u M1 a1 l1 k1 ⟨rr, fr⟩ => ?_
    unfold subV
    refine lE_st (F := subS1 (ev C o st) (ev C i st) st) a1 rr fr fun x s2 w2 M2 hh a2 d f => ?_
    unfold subV1 subS1
    refine PO.bindS a2 (vx_ok hC o a2.s) fun ro s3 w3 xo M3 a3 l3 k3 ⟨rro, _⟩ => ?_
    unfold subV2 subS2
    refine PO.bindS a3 (vx_ok hC i a3.s) fun ri s4 w4 yi M4 a4 l4 k4 ⟨rri, _⟩ => ?_
    unfold subV3 subS3
    cases q : ldB ri s4 w4 with
    | none => trivial
    | some y => exact sto_ok a4 (RR.mono a3.s l4 k4 rro) (a4.s.ldB rri q) (l4.dt (l3.dt d)) f
  | .aug i op e, b, s, w, st, M, sim => by
    unfold vex ex
    unfold augV
    cases q : slG' s[i]? with
    | none => trivial
    | some p =>
      have hp : s[i]? = some (some p) := by
        unfold slG' at q
        split at q
        · rename_i v hv; cases q; exact hv
        · cases q
      obtain ⟨u, h1, h2⟩ := sim.sl i p hp
      unfold augG
      rw [h1]
      simp only []
      exact PO.bindS (At.start sim) (vx_ok hC e sim) fun r s1 w1 y M1 a1 l1 k1 ⟨rr, fr⟩ => aug_ok a1 h1 rr
  | .augF o f op e, b, s, w, st, M, sim => by
    unfold vex ex
    exact PO.bindS (At.start sim) (vx_ok hC o sim) fun r s1 w1 u M1 a1 l1 k1 ⟨rr, fr⟩ => af_ok hC a1 rr fun sim => vx_ok hC e sim
  | .augS o i op e, b, s, w, st, M, sim => by
    unfold vex ex
    exact PO.bindS (At.start sim) (vx_ok hC o sim) fun r s1 w1 u M1 a1 l1 k1 ⟨rr, fr⟩ => as_ok a1 rr (fun sim => vx_ok hC i sim) fun sim => vx_ok hC e sim
  | .del o i, b, s, w, st, M, sim => by
    unfold vex ex
    exact PO.bindS (At.start sim) (vx_ok hC o sim) fun r s1 w1 u M1 a1 l1 k1 ⟨rr, fr⟩ => del_ok a1 rr fun sim => vx_ok hC i sim
  | .ifs c x y, b, s, w, st, M, sim => by
    unfold vex ex
    have e0 : ∀ (r : R Val) (f : Bool → Hs → O), (r.bind truG).st f = r.st fun v h => (truG v h).st f := fun r f => by cases r <;> rfl
    unfold et
    rw [e0]
    refine PO.bindS (At.start sim) (vx_ok hC c sim) fun r s1 w1 u M1 a1 l1 k1 ⟨rr, fr⟩ => ?_
    unfold ifV
    cases e : truX r s1 w1 with
    | none => trivial
    | some k =>
      have et : truG u M1.h = .ok k M1.h := by unfold truG; rw [truX_ok a1 rr e]; rfl
      rw [et]
      cases k with
      | true => exact PO.lift a1 (vexs_ok hC x a1.s)
      | false => exact PO.lift a1 (vexs_ok hC y a1.s)
  | .fors t it body, b, s, w, st, M, sim => by
    unfold vex ex
    refine PO.bindS (At.start sim) (vxi_ok hC it sim) fun src s1 w1 ms M1 a1 l1 k1 ⟨d, hg⟩ => ?_
    unfold forX forS
    exact PO.lift a1 (for_okV (fun {b s w st M} sim => vexs_ok hC body sim) hg (At.start a1.s) d)
  | .whil c body, b, s, w, st, M, sim => by
    unfold vex ex
    exact wh_okV (mt := ev C c) (fun sim => vx_ok hC c sim) (fun {b s w st M} sim => vexs_ok hC body sim) fuel (At.start sim)
  | .ret e, b, s, w, st, M, sim => by
    unfold vex ex
    exact PO.bindS (At.start sim) (vx_ok hC e sim) fun r s1 w1 u M1 a1 l1 k1 ⟨rr, fr⟩ => ret_ok a1 rr fr
  | .retN, b, s, w, st, M, sim => by
    unfold vex ex
    exact ⟨.non, M, rfl, Le.refl _ _, Tk.refl _ _, sim.hp, .f .non, Fr.df (M1 := M) .non⟩
  | .brk, b, s, w, st, M, sim => by unfold vex ex; exact ⟨st, M, rfl, Le.refl _ _, Tk.refl _ _, sim⟩
  | .cont, b, s, w, st, M, sim => by unfold vex ex; exact ⟨st, M, rfl, Le.refl _ _, Tk.refl _ _, sim⟩
  | .nev, b, s, w, st, M, sim => by unfold vex ex; trivial
  | .rais c es, b, s, w, st, M, sim => by
    unfold vex ex
    refine PO.bindS (At.start sim) (vxs_ok hC es sim) fun ps s1 w1 us M1 a1 l1 k1 ⟨d, fr, _⟩ => ?_
    unfold raiV raiK
    by_cases hc : c < 2 ∧ ps.length = (xFlds c).length
    · obtain ⟨M', hh, a', K, ds⟩ := shrs_at a1 d fr
      have hl : us.length = ps.length := by have := ds.len; rw [List.length_map] at this; exact this.symm
      rw [if_pos hc, if_pos (show c < 2 ∧ us.length = (xFlds c).length from ⟨hc.1, by rw [hl]; exact hc.2⟩), ← hh]
      exact ⟨us, M', rfl, a'.l, a'.k, a'.s.hp, ds⟩
    · rw [if_neg hc]; trivial
  | .try2 body i, b, s, w, st, M, sim => by
    unfold vex ex
    have P := vexs_ok hC body sim
    cases q : vexs V body s w with
    | exc c vs s1 w1 =>
      rw [q] at P
      obtain ⟨us, M1, e, l, k, hp, d⟩ := P
      rw [e]
      rcases c with _ | c
      · rcases vs with _ | ⟨v1, _ | ⟨v2, _ | ⟨v3, vs⟩⟩⟩
        · trivial
        · trivial
        · cases d with
          | cons d1 d2 =>
            cases d2 with
            | cons d2 d3 =>
              cases d3
              exact ⟨_, M1, rfl, l, k, hp, .f (.tup (.cons d1 (.cons d2 .nil))), Fr.df (M1 := M1) (.tup (.cons d1 (.cons d2 .nil)))⟩
        · trivial
      · trivial
    | stk => trivial
    | nx s1 w1 => rw [q] at P; obtain ⟨st1, M1, e, r⟩ := P; rw [e]; exact ⟨st1, M1, rfl, r⟩
    | bk s1 w1 => rw [q] at P; obtain ⟨st1, M1, e, r⟩ := P; rw [e]; exact ⟨st1, M1, rfl, r⟩
    | ct s1 w1 => rw [q] at P; obtain ⟨st1, M1, e, r⟩ := P; rw [e]; exact ⟨st1, M1, rfl, r⟩
    | rt v1 w1 => rw [q] at P; obtain ⟨st1, M1, e, r⟩ := P; rw [e]; exact ⟨st1, M1, rfl, r⟩
  | .pass, b, s, w, st, M, sim => by unfold vex ex; exact PO.nx (At.start sim)
theorem vexs_ok (hC : CallsOK C V) : ∀ (x : Ss) {b : Nat} {s : VSl} {w : W} {st : Sl} {M : MS}, Sim b s w st M → PO b M w (exs C x st M.h) (vexs V x s w)
  | .nil, b, s, w, st, M, sim => by unfold vexs exs; exact PO.nx (At.start sim)
  | .cons x ss, b, s, w, st, M, sim => by
    unfold vexs exs
    have P := vex_ok hC x sim
    cases q : vex V x s w with
    | stk => trivial
    | nx s3 w3 =>
      rw [q] at P
      obtain ⟨st3, M3, e3, l3, k3, sim3⟩ := P
      rw [e3]
      exact PO.lift ((At.start sim).next l3 k3 sim3) (vexs_ok hC ss sim3)
    | ct s3 w3 =>
      rw [q] at P
      obtain ⟨st3, M3, e3, l3, k3, sim3⟩ := P
      rw [e3]
      exact ⟨st3, M3, rfl, l3, k3, sim3⟩
    | bk s3 w3 =>
      rw [q] at P
      obtain ⟨st3, M3, e3, l3, k3, sim3⟩ := P
      rw [e3]
      exact ⟨st3, M3, rfl, l3, k3, sim3⟩
    | rt v3 w3 =>
      rw [q] at P
      obtain ⟨u3, M3, e3, l3, k3, hp3, d3, f3⟩ := P
      rw [e3]
      exact ⟨u3, M3, rfl, l3, k3, hp3, d3, f3⟩
    | exc c3 vs3 s3 w3 =>
      rw [q] at P
      obtain ⟨us3, M3, e3, l3, k3, hp3, d3⟩ := P
      rw [e3]
      exact ⟨us3, M3, rfl, l3, k3, hp3, d3⟩
end
end
/-! ### functions -/
theorem start_sim {b k : Nat} {w : W} {M : MS} {ps : List PV} {us : List Val} (hp : HOK M w) (d : DFs M ps us) : Sim b (startV k ps) w (startS k us) M := by
  have hl := d.len
  refine ⟨hp, by simp [startV, startS, hl], fun i p e => ?_⟩
  unfold startV at e
  unfold startS
  by_cases hi : i < ps.length
  · rw [List.getElem?_append_left (by simpa using hi)] at e
    rw [List.getElem?_append_left (by rw [List.length_map, ← hl]; exact hi)]
    rw [List.getElem?_map] at e ⊢
    obtain ⟨p', q1, q2⟩ := Option.map_eq_some_iff.mp e
    cases q2
    obtain ⟨u, z1, z2⟩ := d.get q1
    exact ⟨u, by rw [z1]; rfl, .f z2⟩
  · rw [List.getElem?_append_right (by simpa using hi)] at e
    have := List.mem_of_getElem? e
    rw [List.mem_replicate] at this
    cases this.2
theorem end_ok {b : Nat} {M : MS} {w : W} {mp : O} {vo : VO} (p : PO b M w mp vo) : PC b M w (endF mp) (endV vo) := by
  cases vo with
  | stk => trivial
  | nx s' w' => obtain ⟨st', M', rfl, l, k, sim⟩ := p; exact ⟨.non, M', rfl, l, k, sim.hp, .f .non, Fr.df (M1 := M) .non⟩
  | bk s' w' => trivial
  | ct s' w' => trivial
  | rt v w' => obtain ⟨u, M', rfl, l, k, hp, d, f⟩ := p; exact ⟨u, M', rfl, l, k, hp, d, f⟩
  | exc c vs s' w' => obtain ⟨us, M', rfl, l, k, hp, d⟩ := p; exact ⟨us, M', rfl, l, k, hp, d⟩
theorem fn_ok {G : Tab} {tk n : Nat} (hC : CallsOK (callsN G n) (vcallsN G tk n)) (f : Nat) (vs : List PV) (us : List Val) (w : W) (M : MS) (b : Nat) (hp : HOK M w) (d : DFs M vs us) : PC b M w (callN G (n + 1) f us M.h) (vcallN G tk (n + 1) f vs w) := by
  cases q : G.fns[f]? with
  | none =>
    have : vcallN G tk (n + 1) f vs w = .stk := by
      show (match G.fns[f]? with
        | some d => runV _ d vs w
        | none => VC.stk) = _
      rw [q]
    rw [this]
    trivial
  | some d0 =>
    rw [callN_eq q, vcallN_eq q]
    unfold runV run
    by_cases hl : vs.length = d0.ps.length
    · rw [if_pos hl, if_pos (by rw [← d.len]; exact hl)]
      exact end_ok (vexs_ok hC d0.body (start_sim hp d))
    · rw [if_neg hl]; trivial
theorem calls_ok {G : Tab} {tk : Nat} (ht : G.fns[tk]? = some takeFn) : ∀ n : Nat, CallsOK (callsN G n) (vcallsN G tk n)
  | 0 => ⟨fun _ _ _ _ _ _ _ _ => trivial, fun _ _ _ _ _ _ _ _ => trivial, fun _ _ _ _ h => (by cases h), rfl, rfl, rfl, rfl⟩
  | n + 1 => by
    have ih := calls_ok ht n
    have F := fn_ok (G := G) (tk := tk) ih
    refine ⟨F, fun f vs us w M b hp d => ih.f f vs us w M b hp d, fun t d many r h ok h1 h2 => ?_, rfl, rfl, rfl, rfl⟩
    have e : some tk = some t := h
    cases e
    exact take_eq ht ok h1 (bits_big (by omega) h2) r
/-! ### the law -/
def drawO (ns : List Int) : DSo := ⟨drawD ns, drawD_ok ns⟩
theorem law_v {G : Tab} {tk dr f0 n j : Nat} {d0 : Fn} {rest : Ss} (ht : G.fns[tk]? = some takeFn) (hd : G.fns[dr]? = some drawFn) (h0 : G.fns[f0]? = some d0) (hb : d0.body = .cons (.asg (.nm j) (.call dr (.cons (.var 0) .nil))) rest) (hp : d0.ps.length = 1) (hn : 0 < d0.nms.length) (ns : List Int) (hl : ns.length ≤ 63)
    (hv : ∃ w', endV (vexs (vcallsN G tk (n + 1)) rest ((List.replicate d0.nms.length none).set j (some .drw)) ⟨drawO ns, ⟨[], 0, 0⟩⟩) = .ok (.bl true) w') : ∃ h', callN G (n + 2) f0 [.ref 0] [.frz (ns.map Val.int)] = .ok (.bl true) h' := by
  obtain ⟨w', hv⟩ := hv
  have de := draw_eq (n := n) hd ns hl
  have hC := calls_ok ht (n + 1)
  let M : MS := ⟨(drawD ns).hs, [], fun m => if m < 3 then .drw else .fz⟩
  have sim : Sim 0 ((List.replicate d0.nms.length none).set j (some .drw)) ⟨drawO ns, ⟨[], 0, 0⟩⟩ ((startS d0.nms.length [.ref 0]).set j (some (.ref 2))) M := by
    refine ⟨⟨⟨[], by simp [M, drawO]⟩, fun m hm => if_pos hm, rfl, fun i k m h => (by cases h), fun k o h => (by cases h)⟩, ?_, fun i p e => ?_⟩
    · simp [startS]
      omega
    · by_cases c : j = i
      · subst c
        have hl := (List.getElem?_eq_some_iff.mp e).1
        rw [List.length_set, List.length_replicate] at hl
        rw [List.getElem?_set_self (by simpa using hl)] at e
        cases e
        refine ⟨.ref 2, List.getElem?_set_self ?_, .f .drw⟩
        simp [startS]
        omega
      · rw [List.getElem?_set_ne c] at e
        have := List.mem_of_getElem? e
        rw [List.mem_replicate] at this
        cases this.2
  have P := end_ok (vexs_ok hC rest sim)
  rw [hv] at P
  obtain ⟨u, M', e, _, _, _, d, _⟩ := P
  have hu : u = .bl true := d.dl.b
  subst hu
  refine ⟨M'.h, ?_⟩
  rw [callN_eq h0, run, if_pos (by rw [hp]; rfl), hb, q_exs_cons]
  have e1 : ex (callsN G (n + 1)) (.asg (.nm j) (.call dr (.cons (.var 0) .nil))) (startS d0.nms.length [.ref 0]) [.frz (ns.map Val.int)] = .nx ((startS d0.nms.length [.ref 0]).set j (some (.ref 2))) (drawD ns).hs := by
    have v0 : (startS d0.nms.length [.ref 0])[0]? = some (some (.ref 0)) := rfl
    have fe : (callsN G (n + 1)).f = callN G (n + 1) := rfl
    rw [q_ex_asg, q_ev_call, q_evs_cons, q_ev_var, v0]
    simp only [varF, R.bind_ok, consG, q_evs_nil, consK, fe]
    rw [de]
    rfl
  rw [e1, O.then_nx]
  exact e
end MP

set_option Elab.async false
set_option linter.all false
set_option maxRecDepth 100000
set_option maxHeartbeats 4000000
set_option autoImplicit false
/-! VEn: how to reckon with values. -/
namespace MP
open PySem PySem.Spec L2
section
variable (C : VCl) (s : VSl) (w : W)
@[simp] theorem q_vx_var (i : Nat) : vx C (E.var i) s w = varX i s[i]? s w := rfl
@[simp] theorem q_vx_non : vx C (E.non) s w = .ok (.v .non) s w := rfl
@[simp] theorem q_vx_tt (b : Bool) : vx C (E.tt b) s w = .ok (.v (.bl b)) s w := rfl
@[simp] theorem q_vx_int (i : Int) : vx C (E.int i) s w = .ok (.v (.int i)) s w := rfl
@[simp] theorem q_vx_str (z : List Nat) : vx C (E.str z) s w = .ok (.v (.str z)) s w := rfl
@[simp] theorem q_vx_glob (k : Nat) : vx C (E.glob k) s w = ofR ((C.glob k).bind pvOf) s w := rfl
@[simp] theorem q_vx_bin (op : Operator) (a b : E) : vx C (E.bin op a b) s w = (vx C a s w).bind (b2 (vx C b) (opK (binV op))) := rfl
@[simp] theorem q_vx_neg (a : E) : vx C (E.neg a) s w = (vx C a s w).bind (lB negX) := rfl
@[simp] theorem q_vx_not (a : E) : vx C (E.not a) s w = (vx C a s w).bind (lB notX) := rfl
@[simp] theorem q_vx_cmp (op : CmpOp) (a b : E) : vx C (E.cmp op a b) s w = (vx C a s w).bind (b2 (vx C b) (cmK op)) := rfl
@[simp] theorem q_vx_chain (op op2 : CmpOp) (a b c : E) : vx C (E.chain op op2 a b c) s w = (vx C a s w).bind (b2 (vx C b) (chX1 op op2 (vx C c))) := rfl
@[simp] theorem q_vx_chain3 (op op2 op3 : CmpOp) (a b c d : E) : vx C (E.chain3 op op2 op3 a b c d) s w = (vx C a s w).bind (b2 (vx C b) (ch3X1 op op2 op3 (vx C c) (vx C d))) := rfl
@[simp] theorem q_vx_and (a b : E) : vx C (E.and a b) s w = (vx C a s w).bind (andX (vx C b)) := rfl
@[simp] theorem q_vx_or (a b : E) : vx C (E.or a b) s w = (vx C a s w).bind (orX (vx C b)) := rfl
@[simp] theorem q_vx_ife (c a b : E) : vx C (E.ife c a b) s w = (vx C c s w).bind (ifX (vx C a) (vx C b)) := rfl
@[simp] theorem q_vx_tup (es : Es) : vx C (E.tup es) s w = (vxs C es s w).bind tupX := rfl
@[simp] theorem q_vx_lst (es : Es) : vx C (E.lst es) s w = (vxs C es s w).bind lstX := rfl
@[simp] theorem q_vx_dic (es : Es) : vx C (E.dic es) s w = (vxs C es s w).bind dicX := rfl
@[simp] theorem q_vx_call (f : Nat) (es : Es) : vx C (E.call f es) s w = (vxs C es s w).bind (callX C f) := rfl
@[simp] theorem q_vx_new (c : Nat) (es : Es) : vx C (E.new c es) s w = (vxs C es s w).bind (newX C c) := rfl
@[simp] theorem q_vx_meth (o : E) (m : Nat) (es : Es) : vx C (E.meth o m es) s w = (vx C o s w).bind (lB (methX C m (vxs C es))) := rfl
@[simp] theorem q_vx_prim (p : Prim) (es : Es) : vx C (E.prim p es) s w = (vxr C es s w).bind (primX p) := rfl
@[simp] theorem q_vx_pm (p : PM) (o : E) (es : Es) : vx C (E.pm p o es) s w = (vx C o s w).bind (pmX p (vxr C es) (vxs C es)) := rfl
@[simp] theorem q_vx_fld (o : E) (f : Nat) : vx C (E.fld o f) s w = (vx C o s w).bind (lB (fldX f)) := rfl
@[simp] theorem q_vx_ix (a b : E) : vx C (E.ix a b) s w = (vx C a s w).bind (b2 (vx C b) ixX) := rfl
@[simp] theorem q_vx_sl (a : E) (lo hi : Eo) : vx C (E.sl a lo hi) s w = (vx C a s w).bind (slX (vxo C lo) (vxo C hi)) := rfl
@[simp] theorem q_vx_lc (elt : E) (tg : Tg) (it : I) (cond : Eo) (own : List (Str × Nat)) : vx C (E.lc elt tg it cond own) s w = (vxi C it s w).bind (lcX (stepX (own.map (·.2) ++ tgI tg) tg (vxc C cond) (vx C elt)) (own.map (·.2) ++ tgI tg)) := rfl
@[simp] theorem q_vx_gix (k : Nat) (e : E) : vx C (E.gix k e) s w = (vx C e s w).bind (lB (gixX (C.glob k))) := rfl
@[simp] theorem q_vx_catR (a o : E) (yz : List (List Nat × List Nat)) : vx C (E.catR a o yz) s w = (vx C a s w).bind (b2 (vx C o) (opK (catRV yz))) := rfl
@[simp] theorem q_vx_gdct (x : Str) (kvs : List (List Nat × Int)) (d : Option Int) (e : E) : vx C (E.gdct x kvs d e) s w = (vx C e s w).bind (lB (ggX kvs d)) := rfl
@[simp] theorem q_vx_fmt (e : E) (k : Nat) : vx C (E.fmt e k) s w = (vx C e s w).bind (lB (fmtX k)) := rfl
@[simp] theorem q_vx_js (es : Es) : vx C (E.js es) s w = (noXV (vxs C es s w)).bind jsX := rfl
@[simp] theorem q_vx_maxD (a d : E) : vx C (E.maxD a d) s w = (vx C a s w).bind (b2 (vx C d) (opK maxDV)) := rfl
@[simp] theorem q_vx_rlst (a b : E) : vx C (E.rlst a b) s w = (vx C a s w).bind (b2 (vx C b) (opK rlV)) := rfl
@[simp] theorem q_vx_isi (e : E) (t : Ty) : vx C (E.isi e t) s w = (vx C e s w).bind (lB (isiX t)) := rfl
@[simp] theorem q_vxr_nil : vxr C (Es.nil) s w = .ok [] s w := rfl
@[simp] theorem q_vxr_cons (e : E) (es : Es) : vxr C (Es.cons e es) s w = (vx C e s w).bind (consRX (vxr C es)) := rfl
@[simp] theorem q_vxs_nil : vxs C (Es.nil) s w = .ok [] s w := rfl
@[simp] theorem q_vxs_cons (e : E) (es : Es) : vxs C (Es.cons e es) s w = (vx C e s w).bind (lEK (consVX (vxs C es))) := rfl
@[simp] theorem q_vxo_none : vxo C (Eo.none) s w = .ok none s w := rfl
@[simp] theorem q_vxo_some (e : E) : vxo C (Eo.some e) s w = (vx C e s w).bind (lB partX) := rfl
@[simp] theorem q_vxc_none : vxc C (Eo.none) s w = .ok (.v (.bl true)) s w := rfl
@[simp] theorem q_vxc_some (e : E) : vxc C (Eo.some e) s w = vx C e s w := rfl
@[simp] theorem q_vxi_val (e : E) : vxi C (I.val e) s w = (vx C e s w).bind srcX := rfl
@[simp] theorem q_vxi_rng1 (a : E) : vxi C (I.rng1 a) s w = (vx C a s w).bind (lB rng1X) := rfl
@[simp] theorem q_vxi_rng2 (a b : E) : vxi C (I.rng2 a b) s w = (vx C a s w).bind (b2 (vx C b) rng2X) := rfl
@[simp] theorem q_vxi_rng3 (a b c : E) : vxi C (I.rng3 a b c) s w = (vx C a s w).bind (b2 (vx C b) (r3K (vx C c))) := rfl
@[simp] theorem q_vxi_enu (e : E) : vxi C (I.enu e) s w = (vx C e s w).bind enuX := rfl
@[simp] theorem q_vex_expr (e : E) : vex C (S.expr e) s w = (vx C e s w).st exprV := rfl
@[simp] theorem q_vex_asg (t : Tg) (e : E) : vex C (S.asg t e) s w = (vx C e s w).st (asgV t) := rfl
@[simp] theorem q_vex_fld (o : E) (f : Nat) (e : E) : vex C (S.fld o f e) s w = (vx C e s w).st (fldV C f (vx C o)) := rfl
@[simp] theorem q_vex_sub (o i e : E) : vex C (S.sub o i e) s w = (vx C e s w).st (subV (vx C o) (vx C i)) := rfl
@[simp] theorem q_vex_aug (i : Nat) (op : Operator) (e : E) : vex C (S.aug i op e) s w = augV i op (vx C e) (slG' s[i]?) s w := rfl
@[simp] theorem q_vex_augF (o : E) (f : Nat) (op : Operator) (e : E) : vex C (S.augF o f op e) s w = (vx C o s w).st (afV C f op (vx C e)) := rfl
@[simp] theorem q_vex_augS (o i : E) (op : Operator) (e : E) : vex C (S.augS o i op e) s w = (vx C o s w).st (asV1 op (vx C i) (vx C e)) := rfl
@[simp] theorem q_vex_del (o i : E) : vex C (S.del o i) s w = (vx C o s w).st (delV1 (vx C i)) := rfl
@[simp] theorem q_vex_ifs (c : E) (a b : Ss) : vex C (S.ifs c a b) s w = (vx C c s w).st (ifV (vexs C a) (vexs C b)) := rfl
@[simp] theorem q_vex_fors (t : Tg) (it : I) (body : Ss) : vex C (S.fors t it body) s w = (vxi C it s w).st (forX t (vexs C body)) := rfl
@[simp] theorem q_vex_whil (c : E) (body : Ss) : vex C (S.whil c body) s w = vwhV (vx C c) (vexs C body) fuel s w := rfl
@[simp] theorem q_vex_ret (e : E) : vex C (S.ret e) s w = (vx C e s w).st retV := rfl
@[simp] theorem q_vex_retN : vex C (S.retN) s w = .rt .non w := rfl
@[simp] theorem q_vex_brk : vex C (S.brk) s w = .bk s w := rfl
@[simp] theorem q_vex_cont : vex C (S.cont) s w = .ct s w := rfl
@[simp] theorem q_vex_nev : vex C (S.nev) s w = .stk := rfl
@[simp] theorem q_vex_pass : vex C (S.pass) s w = .nx s w := rfl
@[simp] theorem q_vex_rais (c : Nat) (es : Es) : vex C (S.rais c es) s w = (vxs C es s w).st (raiV c) := rfl
@[simp] theorem q_vex_try2 (body : Ss) (i : Nat) : vex C (S.try2 body i) s w = try2V (vexs C body s w) := rfl
@[simp] theorem q_vexs_nil : vexs C (Ss.nil) s w = .nx s w := rfl
@[simp] theorem q_vexs_cons (x : S) (ss : Ss) : vexs C (Ss.cons x ss) s w = (vex C x s w).then (vexs C ss) := rfl
end
@[simp] theorem xFlds_0 : (xFlds 0).length = 2 := rfl
@[simp] theorem xFlds_1 : (xFlds 1).length = 1 := rfl
/-! calls -/
@[simp] theorem v_f (G : Tab) (tk n : Nat) : (vcallsN G tk n).f = vcallN G tk n := rfl
@[simp] theorem v_i (G : Tab) (tk n : Nat) : (vcallsN G tk (n + 1)).i = vcallN G tk n := rfl
@[simp] theorem v_tk (G : Tab) (tk n : Nat) : (vcallsN G tk n).tk = tkL tk n := rfl
@[simp] theorem tkL_eq (tk n f : Nat) : (tkL tk n = some f) ↔ (n ≠ 0 ∧ tk = f) := by
  cases n with
  | zero => simp [tkL]
  | succ n => simp [tkL]
/-! == -/
@[simp] theorem eqV_ii (a b : Int) : eqV (.int a) (.int b) = some (decide (a = b)) := rfl
@[simp] theorem eqV_ss (a b : List Nat) : eqV (.str a) (.str b) = some (decide (a = b)) := rfl
@[simp] theorem eqV_bb (a b : Bool) : eqV (.bl a) (.bl b) = some (decide (a = b)) := rfl
@[simp] theorem eqV_nn : eqV .non .non = some true := rfl
@[simp] theorem eqV_ni (a : Int) : eqV .non (.int a) = some false := rfl
@[simp] theorem eqV_nb (a : Bool) : eqV .non (.bl a) = some false := rfl
@[simp] theorem eqV_ns (a : List Nat) : eqV .non (.str a) = some false := rfl
@[simp] theorem eqV_in (a : Int) : eqV (.int a) .non = some false := rfl
@[simp] theorem eqV_bn (a : Bool) : eqV (.bl a) .non = some false := rfl
@[simp] theorem eqV_sn (a : List Nat) : eqV (.str a) .non = some false := rfl
@[simp] theorem eqV_is (a : Int) (b : List Nat) : eqV (.int a) (.str b) = some false := rfl
@[simp] theorem eqV_si (a : Int) (b : List Nat) : eqV (.str b) (.int a) = some false := rfl
@[simp] theorem eqV_bs (a : Bool) (b : List Nat) : eqV (.bl a) (.str b) = some false := rfl
@[simp] theorem eqV_sb (a : Bool) (b : List Nat) : eqV (.str b) (.bl a) = some false := rfl
mutual
/-- no truth values -/
def noBP : PV → Bool
  | .bl _ => false
  | .tup vs => noBPs vs
  | .lst _ vs => noBPs vs
  | _ => true
def noBPs : List PV → Bool
  | [] => true
  | v :: vs => noBP v && noBPs vs
end
mutual
theorem cmpt_noB : ∀ a b : PV, noBP a = true → noBP b = true → cmpt a b = true
  | .non, b, _, _ => by cases b <;> simp [cmpt]
  | .bl _, _, h, _ => by simp [noBP] at h
  | .int _, b, _, h => by cases b <;> simp_all [cmpt, noBP]
  | .str _, b, _, _ => by cases b <;> simp [cmpt]
  | .ref _, b, _, _ => by cases b <;> simp [cmpt]
  | .drw, b, _, _ => by cases b <;> simp [cmpt]
  | .tup a, b, h, h' => by
    cases b with
    | tup b =>
      rw [noBP] at h h'
      rw [cmpt]
      exact cmpts_noB a b h h'
    | _ => simp [cmpt]
  | .lst _ a, b, h, h' => by
    cases b with
    | lst _ b =>
      rw [noBP] at h h'
      rw [cmpt]
      exact cmpts_noB a b h h'
    | _ => simp [cmpt]
theorem cmpts_noB : ∀ a b : List PV, noBPs a = true → noBPs b = true → cmpts a b = true
  | [], _, _, _ => by simp [cmpts]
  | _ :: _, [], _, _ => by simp [cmpts]
  | a :: r, b :: s, h, h' => by
    rw [noBPs, Bool.and_eq_true] at h h'
    rw [cmpts, cmpt_noB a b h.1 h'.1, cmpts_noB r s h.2 h'.2]
    rfl
end
/-- data of depth n at most: no references, no truth values, signs in their range, lists that stand still -/
structure Nice (n : Nat) (v : PV) : Prop where
  ok : okP v = true
  nb : noBP v = true
  dep : pdep v ≤ n
  fl : v.flt = v
theorem Nice.up {n m : Nat} {v : PV} (h : Nice n v) (l : n ≤ m) : Nice m v := ⟨h.ok, h.nb, Nat.le_trans h.dep l, h.fl⟩
theorem Nice.non {n : Nat} : Nice n .non := ⟨rfl, rfl, Nat.zero_le _, rfl⟩
theorem Nice.int {n : Nat} (i : Int) : Nice n (.int i) := ⟨rfl, rfl, Nat.zero_le _, rfl⟩
theorem Nice.str {n : Nat} {s : List Nat} (h : ∀ c ∈ s, c < 1114112) : Nice n (.str s) := ⟨List.all_eq_true.mpr fun c hc => decide_eq_true (h c hc), rfl, Nat.zero_le _, rfl⟩
structure Nices (n : Nat) (vs : List PV) : Prop where
  ok : okPs vs = true
  nb : noBPs vs = true
  dep : pdeps vs ≤ n
  fl : PV.flts vs = vs
theorem Nices.nil {n : Nat} : Nices n [] := ⟨rfl, rfl, Nat.zero_le _, rfl⟩
theorem Nices.cons {n : Nat} {v : PV} {vs : List PV} (h : Nice n v) (h' : Nices n vs) : Nices n (v :: vs) :=
  ⟨by rw [okPs, h.ok, h'.ok]; rfl, by rw [noBPs, h.nb, h'.nb]; rfl, by have := h.dep; have := h'.dep; rw [pdeps]; omega, by rw [PV.flts, h.fl, h'.fl]⟩
theorem Nices.of {n : Nat} : ∀ {vs : List PV}, (∀ v ∈ vs, Nice n v) → Nices n vs
  | [], _ => .nil
  | v :: vs, h => .cons (h v List.mem_cons_self) (Nices.of fun x hx => h x (List.mem_cons_of_mem _ hx))
theorem Nices.map {α : Type} {n : Nat} {f : α → PV} {l : List α} (h : ∀ x ∈ l, Nice n (f x)) : Nices n (l.map f) := Nices.of fun v hv => by
  obtain ⟨x, hx, rfl⟩ := List.mem_map.mp hv
  exact h x hx
theorem Nices.up {n m : Nat} {v : List PV} (h : Nices n v) (l : n ≤ m) : Nices m v := ⟨h.ok, h.nb, Nat.le_trans h.dep l, h.fl⟩
theorem Nices.app {n : Nat} {a b : List PV} (h : Nices n a) (h' : Nices n b) : Nices n (a ++ b) := by
  induction a with
  | nil => exact h'
  | cons v vs ih =>
    have h1 := h.ok; have h2 := h.nb; have h3 := h.dep; have h4 := h.fl
    rw [okPs, Bool.and_eq_true] at h1
    rw [noBPs, Bool.and_eq_true] at h2
    rw [pdeps] at h3
    rw [PV.flts, List.cons.injEq] at h4
    exact .cons ⟨h1.1, h2.1, by omega, h4.1⟩ (ih ⟨h1.2, h2.2, by omega, h4.2⟩)
theorem Nice.tup {n : Nat} {vs : List PV} (h : Nices n vs) : Nice (n + 1) (.tup vs) := ⟨by rw [okP]; exact h.ok, by rw [noBP]; exact h.nb, by have := h.dep; rw [pdep]; omega, by rw [PV.flt, h.fl]⟩
theorem Nice.lst {n : Nat} {vs : List PV} (h : Nices n vs) : Nice (n + 1) (.lst .sh vs) := ⟨by rw [okP]; exact h.ok, by rw [noBP]; exact h.nb, by have := h.dep; rw [pdep]; omega, by rw [PV.flt, h.fl]⟩
theorem Nices.ints {n : Nat} (l : List Int) : Nices n (l.map PV.int) := .map fun i _ => .int i
theorem Nices.strs {n : Nat} {l : List (List Nat)} (h : ∀ s ∈ l, ∀ c ∈ s, c < 1114112) : Nices n (l.map PV.str) := .map fun s hs => .str (h s hs)
theorem eqV_lst {o p : Ow} {a b : List PV} (h : Nices 9 a) (h' : Nices 9 b) : eqV (.lst o a) (.lst p b) = some (decide (a = b)) := by
  show deqV _ _ = _
  unfold deqV niceP
  have e1 : cmpt (.lst o a) (.lst p b) = true := by rw [cmpt]; exact cmpts_noB a b h.nb h'.nb
  have d1 := h.dep
  have d2 := h'.dep
  rw [if_pos ⟨by rw [okP, h.ok, pdep]; simp; omega, by rw [okP, h'.ok, pdep]; simp; omega, e1⟩, PV.flt, PV.flt, h.fl, h'.fl]
  simp
theorem eqV_tup {a b : List PV} (h : Nices 9 a) (h' : Nices 9 b) : eqV (.tup a) (.tup b) = some (decide (a = b)) := by
  show deqV _ _ = _
  unfold deqV niceP
  have e1 : cmpt (.tup a) (.tup b) = true := by rw [cmpt]; exact cmpts_noB a b h.nb h'.nb
  have d1 := h.dep
  have d2 := h'.dep
  rw [if_pos ⟨by rw [okP, h.ok, pdep]; simp; omega, by rw [okP, h'.ok, pdep]; simp; omega, e1⟩, PV.flt, PV.flt, h.fl, h'.fl]
  simp
theorem eqV_tl {o : Ow} {a b : List PV} (h : Nices 9 a) (h' : Nices 9 b) : eqV (.tup a) (.lst o b) = some false ∧ eqV (.lst o b) (.tup a) = some false := by
  have d1 := h.dep
  have d2 := h'.dep
  constructor
  · show deqV _ _ = _
    unfold deqV niceP
    rw [if_pos ⟨by rw [okP, h.ok, pdep]; simp; omega, by rw [okP, h'.ok, pdep]; simp; omega, by simp [cmpt]⟩, PV.flt, PV.flt]
    simp
  · show deqV _ _ = _
    unfold deqV niceP
    rw [if_pos ⟨by rw [okP, h'.ok, pdep]; simp; omega, by rw [okP, h.ok, pdep]; simp; omega, by simp [cmpt]⟩, PV.flt, PV.flt]
    simp
theorem eqV_tn {a : List PV} (h : Nices 9 a) : eqV (.tup a) .non = some false ∧ eqV .non (.tup a) = some false := by
  have d1 := h.dep
  constructor
  · show deqV _ _ = _
    unfold deqV niceP
    rw [if_pos ⟨by rw [okP, h.ok, pdep]; simp; omega, rfl, by simp [cmpt]⟩]
    simp [PV.flt]
  · show deqV _ _ = _
    unfold deqV niceP
    rw [if_pos ⟨rfl, by rw [okP, h.ok, pdep]; simp; omega, by simp [cmpt]⟩]
    simp [PV.flt]
theorem eqV_ln {o : Ow} {a : List PV} (h : Nices 9 a) : eqV (.lst o a) .non = some false ∧ eqV .non (.lst o a) = some false := by
  have d1 := h.dep
  constructor
  · show deqV _ _ = _
    unfold deqV niceP
    rw [if_pos ⟨by rw [okP, h.ok, pdep]; simp; omega, rfl, by simp [cmpt]⟩]
    simp [PV.flt]
  · show deqV _ _ = _
    unfold deqV niceP
    rw [if_pos ⟨rfl, by rw [okP, h.ok, pdep]; simp; omega, by simp [cmpt]⟩]
    simp [PV.flt]
mutual
theorem cmpt_self : ∀ a : PV, cmpt a a = true
  | .non => by simp [cmpt]
  | .bl _ => by simp [cmpt]
  | .int _ => by simp [cmpt]
  | .str _ => by simp [cmpt]
  | .ref _ => by simp [cmpt]
  | .drw => by simp [cmpt]
  | .tup a => by rw [cmpt]; exact cmpts_self a
  | .lst _ a => by rw [cmpt]; exact cmpts_self a
theorem cmpts_self : ∀ a : List PV, cmpts a a = true
  | [] => by simp [cmpts]
  | a :: r => by rw [cmpts, cmpt_self a, cmpts_self r]; rfl
end
/-- data, truth values too -/
structure Data (n : Nat) (v : PV) : Prop where
  ok : okP v = true
  dep : pdep v ≤ n
theorem eqV_self {v : PV} (h : Data 10 v) : eqV v v = some true := by
  have key : deqV v v = some true := by
    unfold deqV niceP
    rw [if_pos ⟨by rw [h.ok]; simp; exact h.dep, by rw [h.ok]; simp; exact h.dep, cmpt_self v⟩]
    simp
  cases v <;> first | exact key | simp
/-! in -/
theorem all_flat_strs (l : List (List Nat)) : (l.map PV.str).all flatP' = true := by
  rw [List.all_map]
  exact List.all_eq_true.mpr fun _ _ => rfl
theorem all_flat_ints (l : List Int) : (l.map PV.int).all flatP' = true := by
  rw [List.all_map]
  exact List.all_eq_true.mpr fun _ _ => rfl
theorem any_strV (l : List (List Nat)) (o : List Nat) : (l.map PV.str).any (fun z => eqWV z (.str o)) = decide (o ∈ l) := by
  induction l with
  | nil => simp
  | cons n ns ih =>
    rw [List.map_cons, List.any_cons, ih]
    simp only [eqWV, List.mem_cons]
    by_cases h : n = o
    · simp [h]
    · simp [h, Ne.symm h]
theorem any_intV (l : List Int) (o : Int) : (l.map PV.int).any (fun z => eqWV z (.int o)) = decide (o ∈ l) := by
  induction l with
  | nil => simp
  | cons n ns ih =>
    rw [List.map_cons, List.any_cons, ih]
    simp only [eqWV, List.mem_cons]
    by_cases h : n = o
    · simp [h]
    · simp [h, Ne.symm h]
@[simp] theorem inV_str (x : List Nat) (c : Nat) (s : List Nat) (H : VH) : inV (.str [c]) (.str s) H = some (decide (c ∈ s)) := rfl
@[simp] theorem inV_tup (x : PV) (vs : List PV) (H : VH) : inV x (.tup vs) H = inSV x vs := rfl
@[simp] theorem inV_lst (x : PV) (o : Ow) (vs : List PV) (H : VH) : inV x (.lst o vs) H = inSV x vs := rfl
theorem inSV_strs (x : List Nat) (l : List (List Nat)) : inSV (.str x) (l.map PV.str) = some (decide (x ∈ l)) := by
  unfold inSV
  rw [if_pos ⟨rfl, all_flat_strs l⟩, any_strV]
theorem inSV_ints (x : Int) (l : List Int) : inSV (.int x) (l.map PV.int) = some (decide (x ∈ l)) := by
  unfold inSV
  rw [if_pos ⟨rfl, all_flat_ints l⟩, any_intV]
theorem any_flt {x : PV} (hx : x.flt = x) : ∀ {vs : List PV}, PV.flts vs = vs → (vs.any fun z => decide (z.flt = x.flt)) = decide (x ∈ vs)
  | [], _ => by simp
  | v :: vs, h => by
    rw [PV.flts, List.cons.injEq] at h
    rw [List.any_cons, any_flt hx h.2, h.1, hx]
    by_cases e : v = x
    · simp [e]
    · have : ¬ x = v := fun q => e q.symm
      simp [e, this]
theorem all_cmpt {x : PV} (hx : noBP x = true) : ∀ {vs : List PV}, noBPs vs = true → (vs.all fun z => cmpt z x) = true
  | [], _ => rfl
  | v :: vs, h => by
    rw [noBPs, Bool.and_eq_true] at h
    rw [List.all_cons, cmpt_noB v x h.1 hx, all_cmpt hx h.2]
    rfl
/-- among data -/
theorem inSV_D {x : PV} {vs : List PV} (h : Nice 9 x) (h' : Nices 9 vs) : inSV x vs = some (decide (x ∈ vs)) := by
  unfold inSV
  by_cases fl : flatP' x = true ∧ vs.all flatP' = true
  · rw [if_pos fl]
    congr 1
    obtain ⟨f1, f2⟩ := fl
    have nb := h'.nb
    have nx := h.nb
    clear h' h
    induction vs with
    | nil => simp
    | cons v vs ih =>
      rw [List.all_cons, Bool.and_eq_true] at f2
      rw [noBPs, Bool.and_eq_true] at nb
      rw [List.any_cons, ih f2.2 nb.2]
      cases v <;> cases x <;> simp_all [eqWV, flatP', noBP] <;> (rename_i a b; by_cases c : a = b <;> simp [c, eq_comm])
  · rw [if_neg fl, if_pos ⟨by unfold niceP; rw [h.ok]; simp; have := h.dep; omega, h'.ok, h'.dep, all_cmpt h.nb h'.nb⟩, any_flt h.fl h'.fl]
/-! limits -/
theorem catV_of {α : Type} {i j : List α} (h : i.length + j.length ≤ 16777216) : catV i j = some (i ++ j) := by unfold catV; rw [if_pos (by rw [lim_val]; exact h)]
theorem inH_of {i : Int} (h : -1000000000000 ≤ i) (h2 : i ≤ 1000000000000) : inH i = true := decide_eq_true ⟨by rw [hlim_s]; omega, by rw [hlim_s]; omega⟩
theorem limO_of {α : Type} {n : Nat} {x : α} (h : n ≤ 16777216) : limO n x = some x := by unfold limO; rw [if_pos (by rw [lim_val]; exact h)]
theorem mulI_of {i j : Int} (h : bits i + bits j < 1000000) : mulI i j = some (.int (i * j)) := by unfold mulI; rw [if_pos h]
theorem mulI_small {i j : Int} (h1 : -4294967296 ≤ i) (h2 : i ≤ 4294967296) (h3 : -4294967296 ≤ j) (h4 : j ≤ 4294967296) : mulI i j = some (.int (i * j)) := by
  refine mulI_of ?_
  have key : ∀ i : Int, -4294967296 ≤ i → i ≤ 4294967296 → bits i < 34 := fun i a b => by
    unfold bits
    by_cases h0 : i.natAbs = 0
    · rw [h0]; decide
    · exact (Nat.log2_lt h0).mpr (by omega)
  have := key i h1 h2
  have := key j h3 h4
  omega
theorem divI_of {i j : Int} (h : 0 < j) (h2 : j ≤ 4294967296) : divI i j = some (.int (i / j)) := by unfold divI; rw [if_pos ⟨h, bits_small (by omega) h2⟩]
theorem modI_of {i j : Int} (h : 0 < j) : modI i j = some (.int (i % j)) := by unfold modI; rw [if_pos h]
theorem shlI_of {i j : Int} (h : 0 ≤ j) (h2 : j ≤ 1000000) (h3 : i.natAbs < 2 ^ 64) : shlI i j = some (.int (i * 2 ^ j.toNat)) := by unfold shlI; rw [if_pos ⟨h, h2, h3⟩]
theorem shrI_of {i j : Int} (h : 0 ≤ j) : shrI i j = some (.int (i / 2 ^ j.toNat)) := by unfold shrI; rw [if_pos h]
theorem powI_of {i j : Int} (h : 0 ≤ j) (h2 : j ≤ 1000000) (h3 : i.natAbs < 2 ^ 64) : powI i j = some (.int (i ^ j.toNat)) := by unfold powI; rw [if_pos ⟨h, h2, h3⟩]
theorem repV_of {i : List PV} {k : Int} (h : k < 1048576) (h2 : -1048576 < k) (h3 : i.length * k.toNat ≤ 16777216) : repV i k = some (.lst .ow (rep i k)) := by unfold repV; rw [if_pos ⟨h, h2, by rw [lim_val]; exact h3⟩]
theorem strOf_of {i : Int} (h : -4294967296 ≤ i) (h2 : i ≤ 4294967296) : strOf i = some (.str (numS i)) := by
  unfold strOf
  rw [if_pos ?_]
  unfold bits
  by_cases h0 : i.natAbs = 0
  · rw [h0]; decide
  · have : i.natAbs.log2 < 34 := (Nat.log2_lt h0).mpr (by omega)
    omega
theorem lowV_of {s : List Nat} (h : s.length ≤ 5592405) : lowV s = some (.str (lowS s)) := by unfold lowV; rw [if_pos h]
theorem upV_of {s : List Nat} (h : s.length ≤ 5592405) : upV s = some (.str (upS s)) := by unfold upV; rw [if_pos h]
theorem joinV_of {s : List Nat} {ts : List (List Nat)} (h : (ts.map List.length).sum + ts.length * s.length ≤ 16777216) : joinV s (some ts) = some (.str (TL.joinL s ts)) := by unfold joinV; simp only []; rw [if_pos (by rw [lim_val]; exact h)]
@[simp] theorem isStrsV_map : ∀ ts : List (List Nat), isStrsV (ts.map PV.str) = some ts
  | [] => rfl
  | t :: ts => by rw [List.map_cons, isStrsV, isStrsV_map ts]; rfl
@[simp] theorem isStrsV_chars : ∀ s : List Nat, isStrsV (s.map fun c => PV.str [c]) = some (s.map fun c => [c])
  | [] => rfl
  | t :: ts => by rw [List.map_cons, isStrsV, isStrsV_chars ts]; rfl
@[simp] theorem isIntsV_map : ∀ ts : List Int, isIntsV (ts.map PV.int) = some ts
  | [] => rfl
  | t :: ts => by rw [List.map_cons, isIntsV, isIntsV_map ts]; rfl
/-! loops -/
def forC (step : PV → VSl → W → VO) (g : Option Nat) (vs : List PV) (o : VO) : VO := match o with
  | .nx s w => vforV step g vs s w
  | .ct s w => vforV step g vs s w
  | .bk s w => .nx s w
  | o => o
section
variable (step : PV → VSl → W → VO) (g : Option Nat) (v : PV) (vs : List PV) (s : VSl) (w : W)
@[simp] theorem forC_nx : forC step g vs (.nx s w) = vforV step g vs s w := rfl
@[simp] theorem forC_ct : forC step g vs (.ct s w) = vforV step g vs s w := rfl
@[simp] theorem forC_bk : forC step g vs (.bk s w) = .nx s w := rfl
@[simp] theorem forC_rt : forC step g vs (.rt v w) = .rt v w := rfl
@[simp] theorem forC_exc (c : Nat) (us : List PV) : forC step g vs (.exc c us s w) = .exc c us s w := rfl
@[simp] theorem forC_stk : forC step g vs .stk = .stk := rfl
@[simp] theorem vfor_nil : vforV step none [] s w = .nx s w := rfl
@[simp] theorem vfor_cons : vforV step none (v :: vs) s w = forC step none vs (step v s w) := by
  unfold vforV forC
  simp only [grd, if_true] <;> rfl
end
def whC (test : VSl → W → VR RL) (body : VSl → W → VO) (n : Nat) (o : VO) : VO := match o with
  | .nx s w => vwhV test body n s w
  | .ct s w => vwhV test body n s w
  | .bk s w => .nx s w
  | o => o
def whT (test : VSl → W → VR RL) (body : VSl → W → VO) (n : Nat) (o : Option Bool) (s : VSl) (w : W) : VO := match o with
  | some true => whC test body n (body s w)
  | some false => .nx s w
  | none => .stk
def whR (test : VSl → W → VR RL) (body : VSl → W → VO) (n : Nat) (r : RL) (s : VSl) (w : W) : VO := whT test body n (truX r s w) s w
section
variable (test : VSl → W → VR RL) (body : VSl → W → VO) (n : Nat) (s : VSl) (w : W)
@[simp] theorem whC_nx : whC test body n (.nx s w) = vwhV test body n s w := rfl
@[simp] theorem whC_ct : whC test body n (.ct s w) = vwhV test body n s w := rfl
@[simp] theorem whC_bk : whC test body n (.bk s w) = .nx s w := rfl
@[simp] theorem whC_rt (v : PV) : whC test body n (.rt v w) = .rt v w := rfl
@[simp] theorem whC_exc (c : Nat) (us : List PV) : whC test body n (.exc c us s w) = .exc c us s w := rfl
@[simp] theorem whC_stk : whC test body n .stk = .stk := rfl
@[simp] theorem whT_t : whT test body n (some true) s w = whC test body n (body s w) := rfl
@[simp] theorem whT_f : whT test body n (some false) s w = .nx s w := rfl
@[simp] theorem whR_eq (r : RL) : whR test body n r s w = whT test body n (truX r s w) s w := rfl
theorem vwh_succ : vwhV test body (n + 1) s w = (test s w).st (whR test body n) := by
  unfold vwhV
  cases test s w with
  | ok r s w =>
    show _ = whT test body n (truX r s w) s w
    unfold whT
    simp only [VR.st_ok]
    cases truX r s w with
    | none => rfl
    | some k =>
      cases k with
      | false => rfl
      | true =>
        unfold whC
        rfl
  | exc _ _ _ _ => rfl
  | stk => rfl
end
/-! draws -/
theorem draw_exO (d : DSo) {many : Int} (h : 0 < many) : ∃ (x : Int) (d' : DSo), 0 ≤ x ∧ x < many ∧ takeO d many = (x, d') := by
  have hm : tkM many = many := by unfold tkM; rw [if_pos h]
  obtain ⟨_, h1, h2, _⟩ := takeS_ok d.2 h
  refine ⟨(takeO d many).1, (takeO d many).2, ?_, ?_, rfl⟩
  · show 0 ≤ (takeS d.1 (tkM many)).1
    rw [hm]; exact h1
  · show (takeS d.1 (tkM many)).1 < many
    rw [hm]; exact h2
/-! ranges -/
theorem rngV_map (n : Nat) : rngV 0 1 n = (List.range n).map fun (i : Nat) => PV.int (i : Int) := by
  have key : ∀ (n k : Nat), rngV (k : Int) 1 n = (List.range' k n).map fun (i : Nat) => PV.int (i : Int) := by
    intro n
    induction n with
    | zero => intro k; rfl
    | succ n ih =>
      intro k
      have := ih (k + 1)
      rw [rngV, List.range'_succ, List.map_cons]
      congr 1
  have := key n 0
  rw [List.range_eq_range']
  exact this
theorem rngV_len (c : Int) : ∀ (n : Nat) (lo : Int), (rngV lo c n).length = n
  | 0, _ => rfl
  | n + 1, lo => by rw [rngV, List.length_cons, rngV_len c n]
theorem rngV_mem {c : Int} : ∀ {n : Nat} {lo : Int} {v : PV}, v ∈ rngV lo c n → ∃ i : Nat, i < n ∧ v = .int (lo + i * c)
  | 0, _, _, h => by cases h
  | n + 1, lo, v, h => by
    rw [rngV] at h
    rcases List.mem_cons.mp h with rfl | h
    · exact ⟨0, by omega, by simp⟩
    · obtain ⟨i, h1, rfl⟩ := rngV_mem h
      exact ⟨i + 1, by omega, by congr 1; push_cast; rw [Int.add_mul]; omega⟩
/-! items -/
theorem atI_natV {α : Type} (xs : List α) (k : Nat) : atI xs (k : Int) = xs[k]? := atI_k xs k
theorem pickV {α : Type} {xs : List α} {i : Int} (h : 0 ≤ i) (h2 : i < xs.length) : ∃ v, atI xs i = some v ∧ v ∈ xs := by
  rw [atI_nn h h2, List.getElem?_eq_getElem (by omega)]
  exact ⟨_, rfl, List.getElem_mem _⟩
/-! comprehensions -/
theorem wipe_idem : ∀ (s : VSl) (js : List Nat), wipeV (wipeV s js) js = wipeV s js := by
  intro s js
  refine List.ext_getElem? fun i => ?_
  by_cases c : i ∈ js
  · have key : ∀ (s : VSl) (js : List Nat), i ∈ js → (wipeV s js)[i]? = if i < s.length then some none else none := by
      intro s js
      induction js with
      | nil => intro h; cases h
      | cons j js ih =>
        intro h
        rw [wipeV]
        by_cases cj : j = i
        · subst cj
          by_cases hl : j < s.length
          · rw [List.getElem?_set_self (by rw [wipeV_len]; exact hl), if_pos hl]
          · rw [List.getElem?_eq_none (by rw [List.length_set, wipeV_len]; omega), if_neg hl]
        · rw [List.getElem?_set_ne cj]
          exact ih ((List.mem_cons.mp h).resolve_left (Ne.symm cj))
    rw [key _ js c, key _ js c, wipeV_len]
  · rw [wipeV_out c]
theorem back_same {s0 s s' : VSl} {js : List Nat} (h : wipeV s js = wipeV s' js) : backV s0 s js = backV s0 s' js := by
  have hl : s.length = s'.length := by have := congrArg List.length h; rw [wipeV_len, wipeV_len] at this; exact this
  refine List.ext_getElem? fun i => ?_
  by_cases c : i ∈ js
  · have key : ∀ (s : VSl) (js : List Nat), i ∈ js → (backV s0 s js)[i]? = if i < s.length then some (plainO (slG' s0[i]?)) else none := by
      intro s js
      induction js with
      | nil => intro h; cases h
      | cons j js ih =>
        intro h
        rw [backV]
        by_cases cj : j = i
        · subst cj
          by_cases hl : j < s.length
          · rw [List.getElem?_set_self (by rw [backV_len]; exact hl), if_pos hl]
          · rw [List.getElem?_eq_none (by rw [List.length_set, backV_len]; omega), if_neg hl]
        · rw [List.getElem?_set_ne cj]
          exact ih ((List.mem_cons.mp h).resolve_left (Ne.symm cj))
    rw [key s js c, key s' js c, hl]
  · rw [backV_out c, backV_out c]
    have := congrArg (fun z : VSl => z[i]?) h
    simp only [wipeV_out c] at this
    exact this
theorem step_same {jt : List Nat} {tg : Tg} {vc ve : VSl → W → VR RL} {v : PV} {s s' : VSl} {w : W} (h : wipeV s jt = wipeV s' jt) : stepX jt tg vc ve v s w = stepX jt tg vc ve v s' w := by
  unfold stepX
  rw [h]
/-- items without a change -/
theorem compX_pure {jt : List Nat} {tg : Tg} {vc ve : VSl → W → VR RL} {s0 : VSl} {w : W} {g : PV → Option PV} : ∀ (items acc : List PV) (s : VSl), wipeV s jt = wipeV s0 jt → (∀ v ∈ items, ∃ s', stepX jt tg vc ve v s0 w = .ok (g v) s' w ∧ wipeV s' jt = wipeV s0 jt) → acc.length + items.length ≤ 16777216 →
    ∃ s', compX (stepX jt tg vc ve) none items acc s w = .ok (acc ++ items.filterMap g) s' w ∧ wipeV s' jt = wipeV s0 jt
  | [], acc, s, h, _, _ => ⟨s, by unfold compX; simp [grd], h⟩
  | v :: vs, acc, s, h, hs, hl => by
    simp only [List.length_cons] at hl
    obtain ⟨s1, e1, h1⟩ := hs v List.mem_cons_self
    have e := e1
    rw [← step_same h] at e
    cases q : g v with
    | none =>
      obtain ⟨s2, e2, h2⟩ := compX_pure (g := g) vs acc s1 h1 (fun x hx => hs x (List.mem_cons_of_mem _ hx)) (by omega)
      refine ⟨s2, ?_, h2⟩
      rw [q] at e
      unfold compX
      rw [if_pos (show grd none _ = true from rfl), e, noXV_ok, VR.bind_ok]
      simp only []
      rw [e2, List.filterMap_cons_none q]
    | some y =>
      obtain ⟨s2, e2, h2⟩ := compX_pure (g := g) vs (acc ++ [y]) s1 h1 (fun x hx => hs x (List.mem_cons_of_mem _ hx)) (by simp; omega)
      refine ⟨s2, ?_, h2⟩
      rw [q] at e
      unfold compX
      rw [if_pos (show grd none _ = true from rfl), e, noXV_ok, VR.bind_ok]
      simp only []
      rw [if_pos (by rw [lim_val]; omega), e2, List.filterMap_cons_some q, List.append_assoc]
      rfl
theorem lc_pure {C : VCl} {elt : E} {tg : Tg} {it : I} {cond : Eo} {own : List (Str × Nat)} {s s1 : VSl} {w w1 : W} {items : List PV} (g : PV → Option PV) (hi : vxi C it s w = .ok ⟨items, none⟩ s1 w1)
    (hs : ∀ v ∈ items, ∃ s', stepX (own.map (·.2) ++ tgI tg) tg (vxc C cond) (vx C elt) v s1 w1 = .ok (g v) s' w1 ∧ wipeV s' (own.map (·.2) ++ tgI tg) = wipeV s1 (own.map (·.2) ++ tgI tg)) (hl : items.length ≤ 16777216) :
    vx C (.lc elt tg it cond own) s w = .ok (.v (.lst .ow (items.filterMap g))) (backV s1 s1 (own.map (·.2) ++ tgI tg)) w1 := by
  obtain ⟨s2, e2, h2⟩ := compX_pure (g := g) items [] s1 rfl hs (by simpa using hl)
  rw [q_vx_lc, hi, VR.bind_ok]
  unfold lcX
  simp only []
  rw [e2, VR.bind_ok]
  unfold lcEnd
  rw [back_same h2, List.nil_append]
/-- items that draw -/
theorem compX_draw {jt : List Nat} {tg : Tg} {vc ve : VSl → W → VR RL} {s0 : VSl} {H : VH} {Q : PV → Prop} : ∀ (items acc : List PV) (s : VSl) (d : DSo), wipeV s jt = wipeV s0 jt → (∀ y ∈ acc, Q y) → (∀ v ∈ items, ∀ d : DSo, ∃ y s' d', stepX jt tg vc ve v s0 ⟨d, H⟩ = .ok (some y) s' ⟨d', H⟩ ∧ wipeV s' jt = wipeV s0 jt ∧ Q y) → acc.length + items.length ≤ 16777216 →
    ∃ ys s' d', compX (stepX jt tg vc ve) none items acc s ⟨d, H⟩ = .ok ys s' ⟨d', H⟩ ∧ wipeV s' jt = wipeV s0 jt ∧ ys.length = acc.length + items.length ∧ ∀ y ∈ ys, Q y
  | [], acc, s, d, h, ha, _, _ => ⟨acc, s, d, by unfold compX; simp [grd], h, by simp, ha⟩
  | v :: vs, acc, s, d, h, ha, hs, hl => by
    simp only [List.length_cons] at hl
    obtain ⟨y, s1, d1, e1, h1, q1⟩ := hs v List.mem_cons_self d
    rw [← step_same h] at e1
    obtain ⟨ys, s2, d2, e2, h2, l2, q2⟩ := compX_draw vs (acc ++ [y]) s1 d1 h1 (fun z hz => by
      rcases List.mem_append.mp hz with hz | hz
      · exact ha z hz
      · rw [List.mem_singleton.mp hz]; exact q1) (fun x hx => hs x (List.mem_cons_of_mem _ hx)) (by simp; omega)
    refine ⟨ys, s2, d2, ?_, h2, by rw [l2]; simp; omega, q2⟩
    unfold compX
    rw [if_pos (show grd none _ = true from rfl), e1, noXV_ok, VR.bind_ok]
    simp only []
    rw [if_pos (by rw [lim_val]; omega), e2]
theorem lc_drawV {C : VCl} {elt : E} {tg : Tg} {it : I} {cond : Eo} {own : List (Str × Nat)} {s s1 : VSl} {w : W} {d1 : DSo} {H : VH} {items : List PV} (Q : PV → Prop) (hi : vxi C it s w = .ok ⟨items, none⟩ s1 ⟨d1, H⟩)
    (hs : ∀ v ∈ items, ∀ d : DSo, ∃ y s' d', stepX (own.map (·.2) ++ tgI tg) tg (vxc C cond) (vx C elt) v s1 ⟨d, H⟩ = .ok (some y) s' ⟨d', H⟩ ∧ wipeV s' (own.map (·.2) ++ tgI tg) = wipeV s1 (own.map (·.2) ++ tgI tg) ∧ Q y) (hl : items.length ≤ 16777216) :
    ∃ ys d', vx C (.lc elt tg it cond own) s w = .ok (.v (.lst .ow ys)) (backV s1 s1 (own.map (·.2) ++ tgI tg)) ⟨d', H⟩ ∧ ys.length = items.length ∧ ∀ y ∈ ys, Q y := by
  obtain ⟨ys, s2, d2, e2, h2, l2, q2⟩ := compX_draw items [] s1 d1 rfl (fun _ h => by cases h) hs (by simpa using hl)
  refine ⟨ys, d2, ?_, by simpa using l2, q2⟩
  rw [q_vx_lc, hi, VR.bind_ok]
  unfold lcX
  simp only []
  rw [e2, VR.bind_ok]
  unfold lcEnd
  rw [back_same h2]
end MP

set_option Elab.async false
set_option linter.all false
set_option maxRecDepth 100000
set_option maxHeartbeats 4000000
set_option autoImplicit false
/-! VEo: tools for loops. -/
namespace MP
open PySem PySem.Spec L2
@[simp] theorem tgI_nm (i : Nat) : tgI (.nm i) = [i] := rfl
@[simp] theorem tgI_tup (js : List Nat) : tgI (.tup js) = js := rfl
/-- goes on with the next turn -/
def goP (P : VSl → W → Prop) (o : VO) : Prop := match o with
  | .nx s w => P s w
  | .ct s w => P s w
  | _ => False
@[simp] theorem goP_nx (P : VSl → W → Prop) (s : VSl) (w : W) : goP P (.nx s w) = P s w := rfl
@[simp] theorem goP_ct (P : VSl → W → Prop) (s : VSl) (w : W) : goP P (.ct s w) = P s w := rfl
theorem vfor_go {step : PV → VSl → W → VO} {v : PV} {vs : List PV} {s : VSl} {w : W} {P : VSl → W → Prop} (h : goP P (step v s w)) : ∃ s' w', P s' w' ∧ vforV step none (v :: vs) s w = vforV step none vs s' w' := by
  rw [vfor_cons]
  cases e : step v s w with
  | nx s' w' => rw [e] at h; exact ⟨s', w', h, rfl⟩
  | ct s' w' => rw [e] at h; exact ⟨s', w', h, rfl⟩
  | rt _ _ => rw [e] at h; exact h.elim
  | bk _ _ => rw [e] at h; exact h.elim
  | exc _ _ _ _ => rw [e] at h; exact h.elim
  | stk => rw [e] at h; exact h.elim
/-- every turn keeps what holds; the turns are counted -/
theorem vfor_cnt {step : PV → VSl → W → VO} (P : Nat → VSl → W → Prop) : ∀ (vs : List PV) (k : Nat) {s : VSl} {w : W}, P k s w → (∀ (i : Nat) (v : PV), vs[i]? = some v → ∀ s w, P (k + i) s w → goP (P (k + i + 1)) (step v s w)) →
    ∃ s' w', vforV step none vs s w = .nx s' w' ∧ P (k + vs.length) s' w'
  | [], k, s, w, p, _ => ⟨s, w, vfor_nil _ _ _, p⟩
  | v :: vs, k, s, w, p, h => by
    obtain ⟨s1, w1, p1, e1⟩ := vfor_go (vs := vs) (h 0 v rfl s w p)
    obtain ⟨s2, w2, e2, p2⟩ := vfor_cnt P vs (k + 1) (s := s1) (w := w1) p1 fun i v hv s w q => by
      have := h (i + 1) v hv s w (by rw [show k + (i + 1) = k + 1 + i by omega]; exact q)
      rw [show k + (i + 1) + 1 = k + 1 + i + 1 by omega] at this
      exact this
    exact ⟨s2, w2, e1.trans e2, by rw [List.length_cons, show k + (vs.length + 1) = k + 1 + vs.length by omega]; exact p2⟩
theorem vfor_inv {step : PV → VSl → W → VO} (P : VSl → W → Prop) {vs : List PV} {s : VSl} {w : W} (p : P s w) (h : ∀ v ∈ vs, ∀ s w, P s w → goP P (step v s w)) : ∃ s' w', vforV step none vs s w = .nx s' w' ∧ P s' w' := by
  obtain ⟨s', w', e, q⟩ := vfor_cnt (step := step) (fun _ => P) vs 0 p fun i v hv s w q => h v (List.mem_of_getElem? hv) s w q
  exact ⟨s', w', e, q⟩
/-- two runs behind one another -/
theorem vfor_app {step : PV → VSl → W → VO} : ∀ (xs ys : List PV) {s s1 : VSl} {w w1 : W}, vforV step none xs s w = .nx s1 w1 → (∀ v ∈ xs, ∀ s w s' w', step v s w ≠ .bk s' w') → vforV step none (xs ++ ys) s w = vforV step none ys s1 w1
  | [], ys, s, s1, w, w1, h, _ => by rw [vfor_nil] at h; cases h; rfl
  | x :: xs, ys, s, s1, w, w1, h, hb => by
    rw [List.cons_append, vfor_cons]
    rw [vfor_cons] at h
    cases e : step x s w with
    | nx s' w' =>
      rw [e, forC_nx] at h
      rw [forC_nx]
      exact vfor_app xs ys h fun v hv => hb v (List.mem_cons_of_mem _ hv)
    | ct s' w' =>
      rw [e, forC_ct] at h
      rw [forC_ct]
      exact vfor_app xs ys h fun v hv => hb v (List.mem_cons_of_mem _ hv)
    | bk s' w' => exact absurd e (hb x List.mem_cons_self s w s' w')
    | rt _ _ => rw [e] at h; simp at h
    | exc _ _ _ _ => rw [e] at h; simp at h
    | stk => rw [e] at h; simp at h
/-- a loop over a list that a function gives -/
theorem rngV_app (lo : Int) (a b : Nat) : rngV lo 1 (a + b) = rngV lo 1 a ++ rngV (lo + a) 1 b := by
  induction a generalizing lo with
  | zero => simp [rngV]
  | succ a ih =>
    rw [show a + 1 + b = (a + b) + 1 by omega, rngV, ih, rngV, List.cons_append]
    congr 3
    push_cast
    omega
theorem rngV_get {lo : Int} {n i : Nat} {v : PV} (h : (rngV lo 1 n)[i]? = some v) : i < n ∧ v = .int (lo + i) := by
  induction n generalizing lo i with
  | zero => simp [rngV] at h
  | succ n ih =>
    rw [rngV] at h
    cases i with
    | zero =>
      simp at h
      exact ⟨by omega, by rw [← h]; simp⟩
    | succ i =>
      rw [List.getElem?_cons_succ] at h
      obtain ⟨h1, h2⟩ := ih h
      exact ⟨by omega, by rw [h2]; congr 1; push_cast; omega⟩
/-! while: a turn that goes on -/
theorem vwh_go {test : VSl → W → VR RL} {body : VSl → W → VO} {n : Nat} {s : VSl} {w : W} {P : VSl → W → Prop} (ht : (test s w).st (whR test body n) = whC test body n (body s w)) (h : goP P (body s w)) : ∃ s' w', P s' w' ∧ vwhV test body (n + 1) s w = vwhV test body n s' w' := by
  rw [vwh_succ, ht]
  cases e : body s w with
  | nx s' w' => rw [e] at h; exact ⟨s', w', h, rfl⟩
  | ct s' w' => rw [e] at h; exact ⟨s', w', h, rfl⟩
  | rt _ _ => rw [e] at h; exact h.elim
  | bk _ _ => rw [e] at h; exact h.elim
  | exc _ _ _ _ => rw [e] at h; exact h.elim
  | stk => rw [e] at h; exact h.elim
/-! texts -/
theorem flat_chars : ∀ s : List Nat, (s.map fun c => [c]).flatten = s
  | [] => rfl
  | c :: s => by rw [List.map_cons, List.flatten_cons, flat_chars s]; rfl
theorem join_chars (s : List Nat) : TL.joinL [] (s.map fun c => [c]) = s := by rw [joinL_nil, flat_chars]
theorem fm_some {α β : Type} (f : α → β) (xs : List α) : xs.filterMap (fun x => some (f x)) = xs.map f := by
  induction xs with
  | nil => rfl
  | cons x xs ih => simp [List.filterMap_cons, ih]
/-! replace -/
theorem replT_eq {x y z : List Nat} (hy : y ≠ []) : replT x y z = StrLaws.replL y z x := by
  unfold replT
  have := StrLaws.replace_list (x := ⟨x.toArray⟩) (y := ⟨y.toArray⟩) (z := ⟨z.toArray⟩) (by
    show 1 ≤ y.toArray.size
    have := List.length_pos_iff.mpr hy
    rw [List.size_toArray]
    omega)
  simpa using this
theorem replS_mem {y z : List Nat} {c : Nat} : ∀ (l : List Nat) (s : Nat), c ∈ StrLaws.replS y z s l → c ∈ z ∨ c ∈ l
  | [], s, h => by cases s <;> simp [StrLaws.replS] at h
  | d :: l, 0, h => by
    rw [StrLaws.replS] at h
    split at h
    · rcases List.mem_append.mp h with h | h
      · exact .inl h
      · rcases replS_mem l _ h with h | h
        · exact .inl h
        · exact .inr (List.mem_cons_of_mem _ h)
    · rcases List.mem_cons.mp h with rfl | h
      · exact .inr List.mem_cons_self
      · rcases replS_mem l _ h with h | h
        · exact .inl h
        · exact .inr (List.mem_cons_of_mem _ h)
  | d :: l, s + 1, h => by
    rw [StrLaws.replS] at h
    rcases replS_mem l _ h with h | h
    · exact .inl h
    · exact .inr (List.mem_cons_of_mem _ h)
theorem replS_len {y z : List Nat} : ∀ (l : List Nat) (s : Nat), (StrLaws.replS y z s l).length ≤ l.length * (z.length + 1)
  | [], s => by cases s <;> simp [StrLaws.replS]
  | d :: l, 0 => by
    rw [StrLaws.replS, List.length_cons, Nat.succ_mul]
    split
    · have := replS_len (y := y) (z := z) l (y.length - 1)
      rw [List.length_append]
      omega
    · have := replS_len (y := y) (z := z) l 0
      rw [List.length_cons]
      omega
  | d :: l, s + 1 => by
    rw [StrLaws.replS, List.length_cons, Nat.succ_mul]
    have := replS_len (y := y) (z := z) l s
    omega
theorem replT_mem {x y z : List Nat} (hy : y ≠ []) {c : Nat} (h : c ∈ replT x y z) : c ∈ z ∨ c ∈ x := by rw [replT_eq hy] at h; exact replS_mem x 0 h
theorem replT_len {x y z : List Nat} (hy : y ≠ []) : (replT x y z).length ≤ x.length * (z.length + 1) := by rw [replT_eq hy]; exact replS_len x 0
theorem replF_cons {y z x : List Nat} {r : List (List Nat × List Nat)} (h : x.length + (x.length + 1) * z.length ≤ 16777216) : replF ((y, z) :: r) x = replF r (replT x y z) := by rw [replF, if_pos (by rw [lim_val]; exact h)]
theorem replF_nil (x : List Nat) : replF [] x = some x := rfl
theorem catRV_of {yz : List (List Nat × List Nat)} {s t u : List Nat} (h : replF yz t = some u) : catRV yz (.str s) (.str t) = (catV s u).map .str := by
  unfold catRV
  simp only [h]
  rfl
end MP

set_option maxHeartbeats 0
namespace LK
open PySem PySem.Spec PyProof.Rows L2 MP
def topS (i : Nat) : Stmt := PySem.Challenge.pw_ownanswer_k20_integers_in_octets.main.body.getD i (.Pass ⟨0, 0, 0, 0⟩)
def inCls (s : Stmt) : List Stmt := match s with
  | .ClassDef _ _ _ b _ _ _ _ _ _ _ => b
  | _ => []
def clsS (i j : Nat) : Stmt := (inCls (topS i)).getD j (.Pass ⟨0, 0, 0, 0⟩)
def f0_l0w : E := .cmp .Gt (.var 5) (.int 127)
def f0_l0 : Ss := .cons (.expr (.pm .append (.var 4) (.cons (.bin .Add (.bin .Mod (.var 5) (.int 128)) (.int 128)) .nil)))
    (.cons (.asg (.nm 5) (.bin .FloorDiv (.var 5) (.int 128))) .nil)
def f0 : Fn := ⟨none, "write_int", ["n", "value", "first"], ["n", "value", "first", "full", "row", "rest"],
    .cons (.asg (.nm 3) (.bin .Sub (.bin .LShift (.int 1) (.var 0)) (.int 1)))
    (.cons (.ifs (.cmp .Lt (.var 1) (.var 3))
    (.cons (.ret (.lst (.cons (.bin .Add (.var 2) (.var 1)) .nil))) .nil)
    (.nil))
    (.cons (.asg (.nm 4) (.lst (.cons (.bin .Add (.var 2) (.var 3)) .nil)))
    (.cons (.asg (.nm 5) (.bin .Sub (.var 1) (.var 3)))
    (.cons (.whil f0_l0w f0_l0)
    (.cons (.expr (.pm .append (.var 4) (.cons (.var 5) .nil)))
    (.cons (.ret (.var 4)) .nil))))))⟩
def f1_l0 : Ss := .cons (.asg (.nm 6) (.bin .Add (.bin .Add (.var 1) (.int 1)) (.var 5)))
    (.cons (.ifs (.cmp .GtE (.var 6) (.prim .len (.cons (.var 0) .nil)))
    (.cons (.rais 0 (.cons (.str [115, 104, 111, 114, 116]) (.cons (.prim .len (.cons (.var 0) .nil)) .nil))) .nil)
    (.nil))
    (.cons (.aug 4 .Add (.bin .LShift (.bin .BitAnd (.ix (.var 0) (.var 6)) (.int 127)) (.bin .Mult (.int 7) (.var 5))))
    (.cons (.ifs (.cmp .Gt (.var 4) (.glob 0))
    (.cons (.rais 0 (.cons (.str [110, 117, 109, 98, 101, 114]) (.cons (.var 1) .nil))) .nil)
    (.nil))
    (.cons (.ifs (.cmp .Lt (.ix (.var 0) (.var 6)) (.int 128))
    (.cons (.ret (.tup (.cons (.var 4) (.cons (.bin .Add (.var 6) (.int 1)) .nil)))) .nil)
    (.nil)) .nil))))
def f1 : Fn := ⟨none, "read_int", ["octets", "at", "n"], ["octets", "at", "n", "full", "value", "k", "place"],
    .cons (.ifs (.cmp .GtE (.var 1) (.prim .len (.cons (.var 0) .nil)))
    (.cons (.rais 0 (.cons (.str [115, 104, 111, 114, 116]) (.cons (.prim .len (.cons (.var 0) .nil)) .nil))) .nil)
    (.nil))
    (.cons (.asg (.nm 3) (.bin .Sub (.bin .LShift (.int 1) (.var 2)) (.int 1)))
    (.cons (.asg (.nm 4) (.bin .BitAnd (.ix (.var 0) (.var 1)) (.var 3)))
    (.cons (.ifs (.cmp .Lt (.var 4) (.var 3))
    (.cons (.ret (.tup (.cons (.var 4) (.cons (.bin .Add (.var 1) (.int 1)) .nil)))) .nil)
    (.nil))
    (.cons (.fors (.nm 5) (.rng1 (.glob 1)) f1_l0)
    (.cons (.rais 0 (.cons (.str [110, 117, 109, 98, 101, 114]) (.cons (.var 1) .nil))) .nil)))))⟩
def f2_l0 : Ss := .cons (.asg (.nm 1) (.bin .Mod (.prim .int (.cons (.bin .Add (.bin .Add (.bin .Mult (.var 1) (.int 48271)) (.bin .Mod (.prim .abs (.cons (.prim .int (.cons (.var 2) .nil)) .nil)) (.int 65521))) (.int 1)) .nil)) (.int 2147483647))) .nil
def f2_c0 : E := .lc (.prim .abs (.cons (.prim .int (.cons (.var 2) .nil)) .nil)) (.nm 2) (.val (.var 0)) .none [("_law_cell", 2)]
def f2 : Fn := ⟨none, "_law_draw", ["_law_script"], ["_law_script", "_law_seed", "_law_cell"],
    .cons (.asg (.nm 1) (.int 7))
    (.cons (.fors (.nm 2) (.val (.var 0)) f2_l0)
    (.cons (.ret (.lst (.cons (f2_c0) (.cons (.neg (.int 1)) (.cons (.int 0) (.cons (.var 1) .nil)))))) .nil))⟩
def f3 : Fn := ⟨none, "_law_take", ["_law_draw_here", "_law_many"], ["_law_draw_here", "_law_many", "_law_found"],
    .cons (.ifs (.cmp .Eq (.ix (.var 0) (.int 2)) (.int 0))
    (.cons (.sub (.var 0) (.int 1) (.bin .Add (.ix (.var 0) (.int 1)) (.int 1)))
    (.cons (.ifs (.cmp .Lt (.ix (.var 0) (.int 1)) (.prim .len (.cons (.ix (.var 0) (.int 0)) .nil)))
    (.cons (.sub (.var 0) (.int 2) (.ix (.ix (.var 0) (.int 0)) (.ix (.var 0) (.int 1)))) .nil)
    (.nil))
    (.cons (.ifs (.cmp .Eq (.ix (.var 0) (.int 2)) (.int 0))
    (.cons (.sub (.var 0) (.int 3) (.bin .Mod (.prim .int (.cons (.bin .Add (.bin .Mult (.ix (.var 0) (.int 3)) (.int 48271)) (.int 11)) .nil)) (.int 2147483647)))
    (.cons (.sub (.var 0) (.int 2) (.ix (.var 0) (.int 3))) .nil))
    (.nil)) .nil)))
    (.nil))
    (.cons (.asg (.nm 2) (.bin .Mod (.prim .int (.cons (.ix (.var 0) (.int 2)) .nil)) (.var 1)))
    (.cons (.sub (.var 0) (.int 2) (.bin .FloorDiv (.ix (.var 0) (.int 2)) (.var 1)))
    (.cons (.ret (.var 2)) .nil)))⟩
def f4_l0w : E := .cmp .GtE (.var 1) (.int 128)
def f4_l0 : Ss := .cons (.expr (.pm .append (.var 4) (.cons (.bin .Add (.bin .Mod (.var 1) (.int 128)) (.int 128)) .nil)))
    (.cons (.asg (.nm 1) (.bin .FloorDiv (.var 1) (.int 128))) .nil)
def f4 : Fn := ⟨none, "_law_int", ["_law_n", "_law_value_here", "_law_first"], ["_law_n", "_law_value_here", "_law_first", "_law_full", "_law_row"],
    .cons (.asg (.nm 3) (.bin .Sub (.bin .LShift (.int 1) (.var 0)) (.int 1)))
    (.cons (.ifs (.cmp .Lt (.var 1) (.var 3))
    (.cons (.ret (.lst (.cons (.bin .Add (.var 2) (.var 1)) .nil))) .nil)
    (.nil))
    (.cons (.asg (.nm 4) (.lst (.cons (.bin .Add (.var 2) (.var 3)) .nil)))
    (.cons (.asg (.nm 1) (.bin .Sub (.var 1) (.var 3)))
    (.cons (.whil f4_l0w f4_l0)
    (.cons (.ret (.bin .Add (.var 4) (.lst (.cons (.var 1) .nil)))) .nil)))))⟩
def f5 : Fn := ⟨none, "_law_value", ["_law_draw_here", "_law_n"], ["_law_draw_here", "_law_n", "_law_k", "_law_base"],
    .cons (.asg (.nm 2) (.call 3 (.cons (.var 0) (.cons (.int 8) .nil))))
    (.cons (.ifs (.cmp .Eq (.var 2) (.int 0))
    (.cons (.ret (.call 3 (.cons (.var 0) (.cons (.int 40) .nil)))) .nil)
    (.nil))
    (.cons (.ifs (.cmp .Lt (.var 2) (.int 4))
    (.cons (.asg (.nm 3) (.ix (.lst (.cons (.bin .LShift (.int 1) (.var 1)) (.cons (.bin .Add (.int 127) (.bin .LShift (.int 1) (.var 1))) (.cons (.bin .Add (.int 16383) (.bin .LShift (.int 1) (.var 1))) .nil)))) (.bin .Sub (.var 2) (.int 1))))
    (.cons (.ret (.prim .max (.cons (.int 0) (.cons (.bin .Add (.bin .Sub (.var 3) (.int 2)) (.call 3 (.cons (.var 0) (.cons (.int 5) .nil)))) .nil)))) .nil))
    (.nil))
    (.cons (.ifs (.cmp .Eq (.var 2) (.int 4))
    (.cons (.ret (.bin .Sub (.bin .Sub (.bin .Pow (.int 2) (.int 31)) (.int 1)) (.call 3 (.cons (.var 0) (.cons (.int 3) .nil))))) .nil)
    (.nil))
    (.cons (.ifs (.cmp .Eq (.var 2) (.int 5))
    (.cons (.ret (.call 3 (.cons (.var 0) (.cons (.bin .Pow (.int 2) (.int 31)) .nil)))) .nil)
    (.nil))
    (.cons (.ret (.prim .int (.cons (.call 3 (.cons (.var 0) (.cons (.int 70000) .nil))) .nil))) .nil)))))⟩
def f6 : Fn := ⟨none, "_law_fault", ["_law_octets", "_law_at", "_law_n"], ["_law_octets", "_law_at", "_law_n", "e"],
    .cons (.try2 (.cons (.expr (.call 1 (.cons (.var 0) (.cons (.var 1) (.cons (.var 2) .nil))))) .nil) 3)
    (.cons (.ret (.non)) .nil)⟩
def f7_l0 : Ss := .cons (.ifs (.cmp .GtE (.bin .Add (.bin .Add (.var 1) (.int 1)) (.var 5)) (.prim .len (.cons (.var 0) .nil)))
    (.cons (.ret (.tup (.cons (.str [115, 104, 111, 114, 116]) (.cons (.prim .len (.cons (.var 0) .nil)) .nil)))) .nil)
    (.nil))
    (.cons (.asg (.nm 6) (.ix (.var 0) (.bin .Add (.bin .Add (.var 1) (.int 1)) (.var 5))))
    (.cons (.asg (.nm 4) (.bin .Add (.var 4) (.bin .LShift (.bin .BitAnd (.var 6) (.int 127)) (.bin .Mult (.int 7) (.var 5)))))
    (.cons (.ifs (.cmp .Gt (.var 4) (.bin .Sub (.bin .Pow (.int 2) (.int 31)) (.int 1)))
    (.cons (.ret (.tup (.cons (.str [110, 117, 109, 98, 101, 114]) (.cons (.var 1) .nil)))) .nil)
    (.nil))
    (.cons (.ifs (.cmp .Lt (.var 6) (.int 128))
    (.cons (.ret (.tup (.cons (.var 4) (.cons (.bin .Add (.bin .Add (.var 1) (.int 2)) (.var 5)) .nil)))) .nil)
    (.nil)) .nil))))
def f7 : Fn := ⟨none, "_law_read", ["_law_octets", "_law_at", "_law_n"], ["_law_octets", "_law_at", "_law_n", "_law_full", "_law_value_here", "_law_k", "_law_octet"],
    .cons (.ifs (.cmp .GtE (.var 1) (.prim .len (.cons (.var 0) .nil)))
    (.cons (.ret (.tup (.cons (.str [115, 104, 111, 114, 116]) (.cons (.prim .len (.cons (.var 0) .nil)) .nil)))) .nil)
    (.nil))
    (.cons (.asg (.nm 3) (.bin .Sub (.bin .LShift (.int 1) (.var 2)) (.int 1)))
    (.cons (.asg (.nm 4) (.bin .BitAnd (.ix (.var 0) (.var 1)) (.var 3)))
    (.cons (.ifs (.cmp .Lt (.var 4) (.var 3))
    (.cons (.ret (.tup (.cons (.var 4) (.cons (.bin .Add (.var 1) (.int 1)) .nil)))) .nil)
    (.nil))
    (.cons (.fors (.nm 5) (.rng1 (.int 5)) f7_l0)
    (.cons (.ret (.tup (.cons (.str [110, 117, 109, 98, 101, 114]) (.cons (.var 1) .nil)))) .nil)))))⟩
def f8_c0 : E := .lc (.call 3 (.cons (.var 1) (.cons (.int 256) .nil))) (.nm 13) (.rng1 (.call 3 (.cons (.var 1) (.cons (.int 3) .nil)))) .none [("_law_k", 13)]
def f8_c1 : E := .lc (.call 3 (.cons (.var 1) (.cons (.int 256) .nil))) (.nm 13) (.rng1 (.call 3 (.cons (.var 1) (.cons (.int 3) .nil)))) .none [("_law_k", 13)]
def f8_c2 : E := .lc (.int 128) (.nm 13) (.rng1 (.var 11)) .none [("_law_k", 13)]
def f8_c3 : E := .lc (.bin .Add (.int 128) (.call 3 (.cons (.var 1) (.cons (.int 128) .nil)))) (.nm 13) (.rng1 (.call 3 (.cons (.var 1) (.cons (.int 7) .nil)))) .none [("_law_k", 13)]
def f8_l0 : Ss := .cons (.asg (.nm 3) (.bin .Add (.int 1) (.call 3 (.cons (.var 1) (.cons (.int 8) .nil)))))
    (.cons (.asg (.nm 4) (.bin .LShift (.call 3 (.cons (.var 1) (.cons (.bin .RShift (.int 256) (.var 3)) .nil))) (.var 3)))
    (.cons (.asg (.nm 5) (.call 5 (.cons (.var 1) (.cons (.var 3) .nil))))
    (.cons (.asg (.nm 6) (.call 4 (.cons (.var 3) (.cons (.var 5) (.cons (.var 4) .nil)))))
    (.cons (.asg (.nm 7) (.call 0 (.cons (.var 3) (.cons (.var 5) (.cons (.var 4) .nil)))))
    (.cons (.ifs (.or (.not (.isi (.var 7) .list)) (.cmp .NotEq (.var 7) (.var 6)))
    (.cons (.ret (.tt false)) .nil)
    (.nil))
    (.cons (.asg (.nm 8) (f8_c0))
    (.cons (.asg (.nm 9) (f8_c1))
    (.cons (.asg (.nm 10) (.prim .tuple (.cons (.bin .Add (.bin .Add (.var 8) (.var 6)) (.var 9)) .nil)))
    (.cons (.ifs (.cmp .NotEq (.call 1 (.cons (.var 10) (.cons (.prim .len (.cons (.var 8) .nil)) (.cons (.var 3) .nil)))) (.tup (.cons (.var 5) (.cons (.bin .Add (.prim .len (.cons (.var 8) .nil)) (.prim .len (.cons (.var 6) .nil))) .nil))))
    (.cons (.ret (.tt false)) .nil)
    (.nil))
    (.cons (.asg (.nm 11) (.call 3 (.cons (.var 1) (.cons (.int 4) .nil))))
    (.cons (.ifs (.cmp .Gt (.prim .len (.cons (.var 6) .nil)) (.int 1))
    (.cons (.asg (.nm 6) (.bin .Add (.bin .Add (.bin .Add (.sl (.var 6) .none (.some (.neg (.int 1)))) (.lst (.cons (.bin .Add (.ix (.var 6) (.neg (.int 1))) (.int 128)) .nil))) (f8_c2)) (.lst (.cons (.call 3 (.cons (.var 1) (.cons (.int 2) .nil))) .nil)))) .nil)
    (.nil))
    (.cons (.ifs (.cmp .Eq (.call 3 (.cons (.var 1) (.cons (.int 4) .nil))) (.int 0))
    (.cons (.asg (.nm 6) (.bin .Add (.lst (.cons (.bin .Sub (.bin .Add (.var 4) (.bin .LShift (.int 1) (.var 3))) (.int 1)) .nil)) (f8_c3))) .nil)
    (.nil))
    (.cons (.asg (.nm 10) (.prim .tuple (.cons (.bin .Add (.bin .Add (.var 8) (.var 6)) (.var 9)) .nil)))
    (.cons (.ifs (.cmp .Eq (.call 3 (.cons (.var 1) (.cons (.int 4) .nil))) (.int 0))
    (.cons (.asg (.nm 10) (.sl (.var 10) .none (.some (.bin .Add (.prim .len (.cons (.var 8) .nil)) (.call 3 (.cons (.var 1) (.cons (.bin .Add (.prim .len (.cons (.var 6) .nil)) (.int 1)) .nil))))))) .nil)
    (.nil))
    (.cons (.asg (.nm 12) (.call 7 (.cons (.var 10) (.cons (.prim .len (.cons (.var 8) .nil)) (.cons (.var 3) .nil)))))
    (.cons (.ifs (.isi (.ix (.var 12) (.int 0)) .str)
    (.cons (.ifs (.cmp .NotEq (.call 6 (.cons (.var 10) (.cons (.prim .len (.cons (.var 8) .nil)) (.cons (.var 3) .nil)))) (.var 12))
    (.cons (.ret (.tt false)) .nil)
    (.nil)) .nil)
    (.cons (.ifs (.cmp .NotEq (.call 1 (.cons (.var 10) (.cons (.prim .len (.cons (.var 8) .nil)) (.cons (.var 3) .nil)))) (.var 12))
    (.cons (.ret (.tt false)) .nil)
    (.nil)) .nil)) .nil))))))))))))))))
def lawR : Ss := .cons (.fors (.nm 2) (.rng1 (.int 4)) f8_l0)
    (.cons (.ret (.tt true)) .nil)
def f8 : Fn := ⟨none, "law", ["_law_script"], ["_law_script", "_law_draw_here", "_law_turn", "_law_n", "_law_first", "_law_value_here", "_law_row", "_law_told", "_law_ahead", "_law_behind", "_law_octets", "_law_more", "_law_due", "_law_k"],
    .cons (.asg (.nm 1) (.call 2 (.cons (.var 0) .nil)))
    (lawR)⟩
def G : Tab := ⟨[f0, f1, f2, f3, f4, f5, f6, f7, f8],
  [],
  [("GREATEST", .int (2147483647)), ("MORE", .int (5))],
  [],
  ["len", "range", "int", "abs", "max", "isinstance", "list", "tuple", "str"],
  [],
  [(0, defArgs (clsS 1 0), defBody (clsS 1 0), defScope (clsS 1 0))],
  PySem.Challenge.pw_ownanswer_k20_integers_in_octets.main.file⟩
def ds : List He.DefD := [
  ⟨("write_int", none), "write_int", "write_int", defArgs (topS 5), defBody (topS 5), defScope (topS 5), [], []⟩,
  ⟨("read_int", none), "read_int", "read_int", defArgs (topS 6), defBody (topS 6), defScope (topS 6), [], []⟩,
  ⟨("_law_draw", none), "_law_draw", "_law_draw", defArgs (topS 8), defBody (topS 8), defScope (topS 8), [], []⟩,
  ⟨("_law_take", none), "_law_take", "_law_take", defArgs (topS 9), defBody (topS 9), defScope (topS 9), [], []⟩,
  ⟨("_law_int", none), "_law_int", "_law_int", defArgs (topS 10), defBody (topS 10), defScope (topS 10), [], []⟩,
  ⟨("_law_value", none), "_law_value", "_law_value", defArgs (topS 11), defBody (topS 11), defScope (topS 11), [], []⟩,
  ⟨("_law_fault", none), "_law_fault", "_law_fault", defArgs (topS 12), defBody (topS 12), defScope (topS 12), [], []⟩,
  ⟨("_law_read", none), "_law_read", "_law_read", defArgs (topS 13), defBody (topS 13), defScope (topS 13), [], []⟩,
  ⟨("law", none), "law", "law", defArgs (topS 14), defBody (topS 14), defScope (topS 14), [], []⟩]
theorem ct : chkTab G ds = true := by kernel_rfl
theorem bs : Bs G.fns ds := .cons (fun _ _ _ _ _ _ us hl => match us, hl with | [_, _, _], _ => rfl) (.cons (fun _ _ _ _ _ _ us hl => match us, hl with | [_, _, _], _ => rfl) (.cons (fun _ _ _ _ _ _ us hl => match us, hl with | [_], _ => rfl) (.cons (fun _ _ _ _ _ _ us hl => match us, hl with | [_, _], _ => rfl) (.cons (fun _ _ _ _ _ _ us hl => match us, hl with | [_, _, _], _ => rfl) (.cons (fun _ _ _ _ _ _ us hl => match us, hl with | [_, _], _ => rfl) (.cons (fun _ _ _ _ _ _ us hl => match us, hl with | [_, _, _], _ => rfl) (.cons (fun _ _ _ _ _ _ us hl => match us, hl with | [_, _, _], _ => rfl) (.cons (fun _ _ _ _ _ _ us hl => match us, hl with | [_], _ => rfl) .nil))))))))
theorem xl0 : XLit 0 (defArgs (clsS 1 0)) (defBody (clsS 1 0)) (defScope (clsS 1 0)) := ⟨.inl ⟨rfl, _, _, _, _, _, _, _, _, _, _, _, _, _, _, _, by rfl, rfl⟩, ⟨_, rfl, rfl⟩, by kernel_rfl, by kernel_rfl, by kernel_rfl, by kernel_rfl, by kernel_rfl, by kernel_rfl, by kernel_rfl, fun _ _ _ _ _ _ _ _ _ us hl => match us, hl with | [_, _, _], _ => rfl⟩
abbrev hk : PySem.W.Hook := hookM 5 G ds
def ob (s : PySem.W.SharedT) : AlM := obsM 5 G ds (HandSHeadRun.getT s)
theorem ob_eq (s : PySem.W.SharedT) : ob s = hk.obs s.abs := obsM_eq (HandSHeadRun.getT_eq s)
abbrev RR : PySem.W.OpenRow := PySem.W.OpenLaw.row PySem.Challenge.rw_ownanswer_k20_integers_in_octets
def loose : List Str := ["HeadFault", "GREATEST", "MORE", "write_int", "read_int", "_law_draw", "_law_take", "_law_int", "_law_value", "_law_fault", "_law_read"]
theorem run (w : World) : HandSHeadRun.RunEq RR (PySem.W.view RR.prog [14]) hk ob 3000 loose w := by
  intro os
  kernel_rfl
def script (ns : List Int) : Hs := [.frz (ns.map Val.int)]
def lawF (n : Nat) (ns : List Int) : R Val := callN G n 8 [.ref 0] (script ns)
theorem finish (k : Nat) (hr : Room (k + 2) callerA) (H : ∀ ns : List Int, ns.length ≤ 63 → ∃ h', lawF k ns = .ok (.bl true) h') : PySem.Challenge.rw_ownanswer_k20_integers_in_octets.Holds := by
  w_on; o_law
  refine HandSHeadRun.head_any (r := RR) (q := PySem.W.view RR.prog [14]) (H := hk) (ob := ob) (M := 3000) (loose := loose) (d := HandSHeadRun.topDef RR.prog 14) (kwd := []) ob_eq
    (by kernel_rfl) (fun s => by kernel_rfl) run (by kernel_rfl) (by kernel_rfl) (by kernel_rfl) (by rfl) (by first | assumption | decide +kernel) (by decide +kernel) ⟨rfl, rfl, rfl, rfl, rfl, by decide +kernel⟩ ?hw ?hc
  case hw => w_witness2
  case hc => exact walk_mp (l := PySem.Challenge.rw_ownanswer_k20_integers_in_octets) (n := 63) (k := k) (f0 := 8) (d0 := f8) (x := "_law_script") (G := G) (ds := ds) rfl (by decide) (by kernel_rfl) hr rfl rfl (by kernel_rfl) rfl ct bs (List.forall_mem_cons.mpr ⟨xl0, fun _ h => by cases h⟩) (fun _ => ⟨rfl, by kernel_rfl⟩) fun ns h1 h2 => H ns h1

theorem finishV (k : Nat) (hr : Room (k + 2 + 2) callerA) (H : ∀ ns : List Int, ns.length ≤ 63 → ∃ w', endV (vexs (vcallsN G 3 (k + 1)) lawR ((List.replicate 14 none).set 1 (some .drw)) ⟨drawO ns, ⟨[], 0, 0⟩⟩) = .ok (.bl true) w') : PySem.Challenge.rw_ownanswer_k20_integers_in_octets.Holds :=
  finish (k + 2) hr fun ns h => law_v rfl rfl rfl rfl rfl (by decide) ns h (H ns h)
@[simp] theorem g_glob0 (n : Nat) : ((vcallsN G 3 n).glob 0).bind pvOf = some (.int (2147483647)) := rfl
theorem g_globv0 (n : Nat) : (vcallsN G 3 n).glob 0 = some (.int (2147483647)) := rfl
@[simp] theorem g_glob1 (n : Nat) : ((vcallsN G 3 n).glob 1).bind pvOf = some (.int (5)) := rfl
theorem g_globv1 (n : Nat) : (vcallsN G 3 n).glob 1 = some (.int (5)) := rfl
end LK

namespace LK
open PySem PySem.Spec L2 MP
@[simp] theorem look_hit {α β : Type} [BEq α] [LawfulBEq α] (k : α) (v : β) (r : List (α × β)) : List.lookup k ((k, v) :: r) = some v := by simp [List.lookup]
@[simp] theorem look_ne {β : Type} {k j : Nat} (v : β) (r : List (Nat × β)) (h : ¬ k = j) : List.lookup k ((j, v) :: r) = List.lookup k r := by
  have : (k == j) = false := by simpa using h
  simp [List.lookup, this]
@[simp] theorem look_nil {β : Type} (k : Nat) : List.lookup k ([] : List (Nat × β)) = none := rfl
@[simp] theorem set_last {α : Type} (l : List α) (x y : α) : (l ++ [x]).set l.length y = l ++ [y] := by
  rw [List.set_append_right _ _ (Nat.le_refl _)]
  simp
@[simp] theorem limO_s {α : Type} {n : Nat} {x : α} (h : n ≤ 16777216) : limO n x = some x := limO_of h
theorem ifc {α : Type} {p q : Prop} [Decidable p] [Decidable q] (h : p ↔ q) (x y : α) : (if p then x else y) = if q then x else y := by
  by_cases c : p
  · rw [if_pos c, if_pos (h.mp c)]
  · rw [if_neg c, if_neg fun d => c (h.mpr d)]
/-! lists of numbers -/
def il (xs : List Int) : List PV := xs.map PV.int
theorem il_len (xs : List Int) : (il xs).length = xs.length := by simp [il]
theorem il_app (xs ys : List Int) : il (xs ++ ys) = il xs ++ il ys := by simp [il]
theorem il_cons (x : Int) (xs : List Int) : il (x :: xs) = .int x :: il xs := rfl
theorem il_rep (k : Nat) (x : Int) : il (List.replicate k x) = List.replicate k (PV.int x) := by simp [il]
theorem il_nice (xs : List Int) : Nices 9 (il xs) := .map fun r _ => .int _
theorem il_inj {xs ys : List Int} : il xs = il ys ↔ xs = ys := by
  constructor
  · intro h
    induction xs generalizing ys with
    | nil => cases ys with
      | nil => rfl
      | cons y ys => cases h
    | cons x xs ih => cases ys with
      | nil => cases h
      | cons y ys =>
        rw [il_cons, il_cons] at h
        injection h with h1 h2
        injection h1 with h1
        rw [h1, ih h2]
  · rintro rfl; rfl
theorem il_get (xs : List Int) (i : Nat) : atI (il xs) (i : Int) = (xs[i]?).map PV.int := by rw [atI_natV]; simp [il]
theorem ints_of : ∀ (ys : List PV), (∀ y ∈ ys, ∃ i : Int, y = .int i) → ∃ xs : List Int, ys = il xs
  | [], _ => ⟨[], rfl⟩
  | y :: ys, h => by
    obtain ⟨xs, e⟩ := ints_of ys fun z hz => h z (List.mem_cons_of_mem _ hz)
    obtain ⟨i, rfl⟩ := h y List.mem_cons_self
    exact ⟨i :: xs, by rw [e]; rfl⟩
theorem ints_ofP {P : Int → Prop} : ∀ (ys : List PV), (∀ y ∈ ys, ∃ i : Int, P i ∧ y = .int i) → ∃ xs : List Int, ys = il xs ∧ ∀ x ∈ xs, P x
  | [], _ => ⟨[], rfl, fun _ h => absurd h List.not_mem_nil⟩
  | y :: ys, h => by
    obtain ⟨xs, e, hp⟩ := ints_ofP ys fun z hz => h z (List.mem_cons_of_mem _ hz)
    obtain ⟨i, hi, rfl⟩ := h y List.mem_cons_self
    exact ⟨i :: xs, by rw [e]; rfl, fun x hx => by
      rcases List.mem_cons.mp hx with rfl | hx
      · exact hi
      · exact hp x hx⟩
/-! integers in octets: write_int, read_int and the law's own -/
/-- the digits behind the first octet -/
def dgs : Nat → Int → List Int
  | 0, v => [v]
  | k + 1, v => if v < 128 then [v] else (v % 128 + 128) :: dgs k (v / 128)
theorem dgs_len : ∀ (k : Nat) (v : Int), (dgs k v).length ≤ k + 1
  | 0, _ => by simp [dgs]
  | k + 1, v => by
    unfold dgs
    split
    · simp
    · have := dgs_len k (v / 128)
      simp
      omega
def P2 (n : Nat) : Int := ((2 ^ n : Nat) : Int)
/-- the octets of an integer -/
def WI (n : Nat) (v first : Int) : List Int := if v < P2 n - 1 then [first + v] else (first + (P2 n - 1)) :: dgs 4 (v - (P2 n - 1))
theorem WI_len (n : Nat) (v first : Int) : (WI n v first).length ≤ 6 := by
  unfold WI
  split
  · simp
  · have := dgs_len 4 (v - (P2 n - 1))
    simp
    omega
theorem P2_b {n : Nat} (h : 1 ≤ n) (h2 : n ≤ 8) : 2 ≤ P2 n ∧ P2 n ≤ 256 := by
  have : n = 1 ∨ n = 2 ∨ n = 3 ∨ n = 4 ∨ n = 5 ∨ n = 6 ∨ n = 7 ∨ n = 8 := by omega
  rcases this with rfl | rfl | rfl | rfl | rfl | rfl | rfl | rfl <;> decide
theorem shl_1 {n : Nat} (h2 : n ≤ 8) : shlI 1 (n : Int) = some (.int (P2 n)) := by
  rw [shlI_of (by omega) (by omega) (by decide)]
  simp [P2]
theorem and_P2 {n : Nat} (h : 1 ≤ n) (h2 : n ≤ 8) (x : Int) : Builtin.bitAnd x (P2 n - 1) = x % P2 n := by
  have : n = 1 ∨ n = 2 ∨ n = 3 ∨ n = 4 ∨ n = 5 ∨ n = 6 ∨ n = 7 ∨ n = 8 := by omega
  rcases this with rfl | rfl | rfl | rfl | rfl | rfl | rfl | rfl
  · exact PyProof.Rows.bitAnd_m1 x
  · exact PyProof.Rows.bitAnd_m2 x
  · exact PyProof.Rows.bitAnd_m3 x
  · exact PyProof.Rows.bitAnd_m4 x
  · exact PyProof.Rows.bitAnd_m5 x
  · exact PyProof.Rows.bitAnd_m6 x
  · exact PyProof.Rows.bitAnd_m7 x
  · exact PyProof.Rows.bitAnd_m8 x
theorem wi_loop (C : VCl) (w : W) (a b c d : Option PV) : ∀ (k : Nat) (f : Nat) (v : Int) (acc : List Int), k < f → 0 ≤ v → v < 128 ^ (k + 1) → acc.length + k ≤ 1000 →
    ∃ v' : Int, ∃ init : List Int, vwhV (vx C f0_l0w) (vexs C f0_l0) f [a, b, c, d, some (.lst .ow (il acc)), some (.int v)] w = .nx [a, b, c, d, some (.lst .ow (il (acc ++ init))), some (.int v')] w ∧ init ++ [v'] = dgs k v ∧ init.length ≤ k
  | k, 0, v, acc, hf, _, _, _ => by omega
  | k, f + 1, v, acc, hf, h0, h1, hl => by
    rw [vwh_succ]
    have la : (il acc).length < 16777216 := by rw [il_len]; omega
    by_cases c1 : v < 128
    · refine ⟨v, [], ?_, ?_, by simp⟩
      · rw [List.append_nil]
        have c2 : ¬ (127 < v) := by omega
        generalize il acc = A
        simp (disch := (first | assumption | omega | (simp only [List.length_append, List.length_cons, List.length_nil, List.length_map, List.length_replicate] <;> omega) | fail)) [f0_l0w, c2]
      · cases k <;> simp [dgs, c1]
    · cases k with
      | zero => omega
      | succ k =>
        obtain ⟨v', init, e, e2, e3⟩ := wi_loop C w a b c d k f (v / 128) (acc ++ [v % 128 + 128]) (by omega) (by omega) (by
          have : (128 : Int) ^ (k + 1 + 1) = 128 ^ (k + 1) * 128 := by rw [Int.pow_succ]
          omega) (by simp; omega)
        refine ⟨v', (v % 128 + 128) :: init, ?_, ?_, by simp; omega⟩
        · have c2 : 127 < v := by omega
          have m1 := modI_of (i := v) (j := 128) (by decide)
          have m2 := divI_of (i := v) (j := 128) (by decide) (by decide)
          rw [show acc ++ (v % 128 + 128) :: init = acc ++ [v % 128 + 128] ++ init by simp, ← e]
          have ea : il (acc ++ [v % 128 + 128]) = il acc ++ [.int (v % 128 + 128)] := il_app _ _
          rw [ea]
          generalize il acc = A at la ⊢
          simp (disch := (first | assumption | omega | (simp only [List.length_append, List.length_cons, List.length_nil, List.length_map, List.length_replicate] <;> omega) | fail)) [f0_l0w, f0_l0, c2, m1, m2, lim_val, la]
        · rw [dgs, if_neg c1, ← e2]
          simp
theorem write_int_eq (q : Nat) (w : W) {n : Nat} (h : 1 ≤ n) (h2 : n ≤ 8) {v : Int} (v0 : 0 ≤ v) (v1 : v < 34359738368) (first : Int) : vcallN G 3 (q + 1) 0 [.int n, .int v, .int first] w = .ok (.lst .ow (il (WI n v first))) w := by
  rw [vcallN_eq (d := f0) rfl]
  have s1 := shl_1 h2
  obtain ⟨b1, b2⟩ := P2_b h h2
  unfold WI
  by_cases c : v < P2 n - 1
  · rw [if_pos c]
    generalize P2 n = p at *
    generalize (n : Int) = ni at *
    simp (disch := (first | assumption | omega | (simp only [List.length_append, List.length_cons, List.length_nil, List.length_map, List.length_replicate] <;> omega) | fail)) [f0, s1, c, il]
  · rw [if_neg c]
    obtain ⟨v', init, e, e2, e3⟩ := wi_loop (vcallsN G 3 q) w (some (.int n)) (some (.int v)) (some (.int first)) (some (.int (P2 n - 1))) 4 1000000 (v - (P2 n - 1)) [first + (P2 n - 1)] (by decide) (by omega) (by
      have : (128 : Int) ^ (4 + 1) = 34359738368 := by decide
      omega) (by simp)
    rw [← e2]
    have e4 : il ((first + (P2 n - 1)) :: (init ++ [v'])) = il ([first + (P2 n - 1)] ++ init) ++ [.int v'] := by simp [il]
    have l4 : (il ([first + (P2 n - 1)] ++ init)).length < 16777216 := by rw [il_len]; simp; omega
    rw [e4]
    have e5 : il [first + (P2 n - 1)] = [.int (first + (P2 n - 1))] := rfl
    rw [e5] at e
    generalize il ([first + (P2 n - 1)] ++ init) = A at *
    generalize P2 n = p at *
    generalize (n : Int) = ni at *
    simp (disch := (first | assumption | omega | (simp only [List.length_append, List.length_cons, List.length_nil, List.length_map, List.length_replicate] <;> omega) | fail)) [f0, s1, c, fuel, e, lim_val, l4, limO_of]
theorem lwi_loop (C : VCl) (w : W) (a c d : Option PV) : ∀ (k : Nat) (f : Nat) (v : Int) (acc : List Int), k < f → 0 ≤ v → v < 128 ^ (k + 1) → acc.length + k ≤ 1000 →
    ∃ v' : Int, ∃ init : List Int, vwhV (vx C f4_l0w) (vexs C f4_l0) f [a, some (.int v), c, d, some (.lst .ow (il acc))] w = .nx [a, some (.int v'), c, d, some (.lst .ow (il (acc ++ init)))] w ∧ init ++ [v'] = dgs k v ∧ init.length ≤ k
  | k, 0, v, acc, hf, _, _, _ => by omega
  | k, f + 1, v, acc, hf, h0, h1, hl => by
    rw [vwh_succ]
    have la : (il acc).length < 16777216 := by rw [il_len]; omega
    by_cases c1 : v < 128
    · refine ⟨v, [], ?_, ?_, by simp⟩
      · rw [List.append_nil]
        have c2 : ¬ (128 ≤ v) := by omega
        generalize il acc = A
        simp (disch := (first | assumption | omega | (simp only [List.length_append, List.length_cons, List.length_nil, List.length_map, List.length_replicate] <;> omega) | fail)) [f4_l0w, c2]
      · cases k <;> simp [dgs, c1]
    · cases k with
      | zero => omega
      | succ k =>
        obtain ⟨v', init, e, e2, e3⟩ := lwi_loop C w a c d k f (v / 128) (acc ++ [v % 128 + 128]) (by omega) (by omega) (by
          have : (128 : Int) ^ (k + 1 + 1) = 128 ^ (k + 1) * 128 := by rw [Int.pow_succ]
          omega) (by simp; omega)
        refine ⟨v', (v % 128 + 128) :: init, ?_, ?_, by simp; omega⟩
        · have c2 : 128 ≤ v := by omega
          have m1 := modI_of (i := v) (j := 128) (by decide)
          have m2 := divI_of (i := v) (j := 128) (by decide) (by decide)
          rw [show acc ++ (v % 128 + 128) :: init = acc ++ [v % 128 + 128] ++ init by simp, ← e]
          have ea : il (acc ++ [v % 128 + 128]) = il acc ++ [.int (v % 128 + 128)] := il_app _ _
          rw [ea]
          generalize il acc = A at la ⊢
          simp (disch := (first | assumption | omega | (simp only [List.length_append, List.length_cons, List.length_nil, List.length_map, List.length_replicate] <;> omega) | fail)) [f4_l0w, f4_l0, c2, m1, m2, lim_val, la]
        · rw [dgs, if_neg c1, ← e2]
          simp
theorem lint_eq (q : Nat) (w : W) {n : Nat} (h : 1 ≤ n) (h2 : n ≤ 8) {v : Int} (v0 : 0 ≤ v) (v1 : v < 34359738368) (first : Int) : vcallN G 3 (q + 1) 4 [.int n, .int v, .int first] w = .ok (.lst .ow (il (WI n v first))) w := by
  rw [vcallN_eq (d := f4) rfl]
  have s1 := shl_1 h2
  obtain ⟨b1, b2⟩ := P2_b h h2
  unfold WI
  by_cases c : v < P2 n - 1
  · rw [if_pos c]
    generalize P2 n = p at *
    generalize (n : Int) = ni at *
    simp (disch := (first | assumption | omega | (simp only [List.length_append, List.length_cons, List.length_nil, List.length_map, List.length_replicate] <;> omega) | fail)) [f4, s1, c, il]
  · rw [if_neg c]
    obtain ⟨v', init, e, e2, e3⟩ := lwi_loop (vcallsN G 3 q) w (some (.int n)) (some (.int first)) (some (.int (P2 n - 1))) 4 1000000 (v - (P2 n - 1)) [first + (P2 n - 1)] (by decide) (by omega) (by
      have : (128 : Int) ^ (4 + 1) = 34359738368 := by decide
      omega) (by simp)
    rw [← e2]
    have e4 : il ((first + (P2 n - 1)) :: (init ++ [v'])) = il ([first + (P2 n - 1)] ++ init) ++ [.int v'] := by simp [il]
    have l4 : (il ([first + (P2 n - 1)] ++ init)).length ≤ 1000 := by rw [il_len]; simp; omega
    rw [e4]
    have e5 : il [first + (P2 n - 1)] = [.int (first + (P2 n - 1))] := rfl
    rw [e5] at e
    generalize il ([first + (P2 n - 1)] ++ init) = A at *
    generalize P2 n = p at *
    generalize (n : Int) = ni at *
    simp (disch := (first | assumption | omega | (simp only [List.length_append, List.length_cons, List.length_nil, List.length_map, List.length_replicate] <;> omega) | fail)) [f4, s1, c, fuel, e, l4, catV_of, limO_of]
/-! reading -/
inductive Rd where
  | val (v : Int) (b : Nat)
  | flt (s : List Nat) (a : Nat)
def SHORT : List Nat := [115, 104, 111, 114, 116]
def NUM : List Nat := [110, 117, 109, 98, 101, 114]
/-- as the law tells it -/
def rdV : Rd → PV
  | .val v b => .tup [.int v, .int b]
  | .flt s a => .tup [.str s, .int a]
/-- as the call ends -/
def rdC (w : W) : Rd → VC
  | .val v b => .ok (.tup [.int v, .int b]) w
  | .flt s a => .exc 0 [.str s, .int a] w
def rdL (xs : List Int) (at_ : Nat) : Nat → Nat → Int → Rd
  | 0, _, _ => .flt NUM at_
  | l + 1, k, v => match xs[at_ + 1 + k]? with
    | none => .flt SHORT xs.length
    | some o => if v + o % 128 * P2 (7 * k) > 2147483647 then .flt NUM at_ else if o < 128 then .val (v + o % 128 * P2 (7 * k)) (at_ + 2 + k) else rdL xs at_ l (k + 1) (v + o % 128 * P2 (7 * k))
def RD (xs : List Int) (at_ n : Nat) : Rd := match xs[at_]? with
  | none => .flt SHORT xs.length
  | some o => if o % P2 n < P2 n - 1 then .val (o % P2 n) (at_ + 1) else rdL xs at_ 5 0 (P2 n - 1)
theorem mod_full {o p : Int} (h : 0 < p) (h2 : ¬ o % p < p - 1) : o % p = p - 1 := by
  have := Int.emod_lt_of_pos o h
  omega
theorem shl_k {x : Int} (h : 0 ≤ x) (h2 : x < 128) (k : Nat) (hk : k ≤ 4) : shlI x (7 * (k : Int)) = some (.int (x * P2 (7 * k))) := by
  rw [shlI_of (by omega) (by omega) (by omega)]
  have : (7 * (k : Int)).toNat = 7 * k := by omega
  rw [this]
  simp [P2]
/-- what a loop ends with -/
def rdO (s : VSl) (w : W) : Rd → VO
  | .val v b => .rt (.tup [.int v, .int b]) w
  | .flt t a => .exc 0 [.str t, .int a] s w
def rdLO (w : W) : Rd → VO
  | .val v b => .rt (.tup [.int v, .int b]) w
  | .flt t a => .rt (.tup [.str t, .int a]) w
def rdVC (w : W) : Rd → VC
  | .val v b => .ok (.tup [.int v, .int b]) w
  | .flt s a => .ok (.tup [.str s, .int a]) w
theorem p31 : powI 2 31 = some (.int 2147483648) := rfl
theorem rd_loop (q : Nat) (w : W) (xs : List Int) (hx : xs.length ≤ 1000) (ho : ∀ x ∈ xs, 0 ≤ x) (at_ : Nat) (X2 X3 : Option PV) : ∀ (l k : Nat) (v : Int) (x5 x6 : Option PV), k + l ≤ 5 →
    (∃ a4 a5 a6, vforV (forKV (.nm 5) (vexs (vcallsN G 3 q) f1_l0)) none (rngV k 1 l) [some (.tup (il xs)), some (.int at_), X2, X3, some (.int v), x5, x6] w = .nx [some (.tup (il xs)), some (.int at_), X2, X3, a4, a5, a6] w ∧ rdL xs at_ l k v = .flt NUM at_) ∨
    ∃ s, vforV (forKV (.nm 5) (vexs (vcallsN G 3 q) f1_l0)) none (rngV k 1 l) [some (.tup (il xs)), some (.int at_), X2, X3, some (.int v), x5, x6] w = rdO s w (rdL xs at_ l k v)
  | 0, k, v, x5, x6, _ => .inl ⟨_, _, _, vfor_nil _ _ _, rfl⟩
  | l + 1, k, v, x5, x6, hk => by
    rw [show rngV (k : Int) 1 (l + 1) = .int k :: rngV ((k + 1 : Nat) : Int) 1 l from rfl, vfor_cons]
    have hat : atI (il xs) ((at_ : Int) + 1 + (k : Int)) = (xs[at_ + 1 + k]?).map PV.int := by rw [← il_get]; rfl
    have hL := il_len xs
    have m7 : mulI 7 (k : Int) = some (.int (7 * (k : Int))) := mulI_small (by decide) (by decide) (by omega) (by omega)
    unfold rdL
    cases qx : xs[at_ + 1 + k]? with
    | none =>
      right
      rw [qx] at hat
      have hle : ((il xs).length : Int) ≤ (at_ : Int) + 1 + (k : Int) := by rw [hL]; have := List.getElem?_eq_none_iff.mp qx; omega
      dsimp only
      rw [← hL]
      unfold rdO SHORT
      dsimp only
      refine ⟨[some (.tup (il xs)), some (.int at_), X2, X3, some (.int v), some (.int k), some (.int ((at_ : Int) + 1 + (k : Int)))], ?_⟩
      generalize il xs = X at *
      obtain ⟨L, hLL⟩ : ∃ L : Int, (X.length : Int) = L := ⟨_, rfl⟩
      rw [hLL] at hle ⊢
      generalize (at_ : Int) = ai at *
      generalize (k : Int) = ki at *
      clear hL
      simp (disch := (first | assumption | omega | (simp only [List.length_append, List.length_cons, List.length_nil, List.length_map, List.length_replicate] <;> omega) | fail)) [forKV, f1_l0, hLL, hle]
    | some o =>
      rw [qx] at hat
      have hlt : ¬ ((il xs).length : Int) ≤ (at_ : Int) + 1 + (k : Int) := by rw [hL]; have := (List.getElem?_eq_some_iff.mp qx).1; omega
      have o0 : 0 ≤ o := ho o (List.mem_of_getElem? qx)
      have sh := shl_k (x := o % 128) (by omega) (by omega) k (by omega)
      have ba := PyProof.Rows.bitAnd_m7 o
      dsimp only
      generalize hV : v + o % 128 * P2 (7 * k) = V at *
      by_cases c1 : V > 2147483647
      · right
        rw [if_pos c1]
        unfold rdO NUM
        dsimp only
        refine ⟨[some (.tup (il xs)), some (.int at_), X2, X3, some (.int V), some (.int k), some (.int ((at_ : Int) + 1 + (k : Int)))], ?_⟩
        generalize il xs = X at *
        generalize P2 (7 * k) = pk at *
        obtain ⟨L, hLL⟩ : ∃ L : Int, (X.length : Int) = L := ⟨_, rfl⟩
        rw [hLL] at hlt
        generalize (at_ : Int) = ai at *
        generalize (k : Int) = ki at *
        clear hL
        simp (disch := (first | assumption | omega | (simp only [List.length_append, List.length_cons, List.length_nil, List.length_map, List.length_replicate] <;> omega) | fail)) [forKV, f1_l0, hLL, hlt, hat, m7, sh, ba, hV, c1]
      · rw [if_neg c1]
        by_cases c2 : o < 128
        · right
          rw [if_pos c2]
          unfold rdO
          dsimp only
          have hc : ((at_ + 2 + k : Nat) : Int) = (at_ : Int) + 1 + (k : Int) + 1 := by omega
          rw [hc]
          refine ⟨[some (.tup (il xs)), some (.int at_), X2, X3, some (.int V), some (.int k), some (.int ((at_ : Int) + 1 + (k : Int)))], ?_⟩
          generalize il xs = X at *
          generalize P2 (7 * k) = pk at *
          obtain ⟨L, hLL⟩ : ∃ L : Int, (X.length : Int) = L := ⟨_, rfl⟩
          rw [hLL] at hlt
          generalize (at_ : Int) = ai at *
          generalize (k : Int) = ki at *
          clear hL
          simp (disch := (first | assumption | omega | (simp only [List.length_append, List.length_cons, List.length_nil, List.length_map, List.length_replicate] <;> omega) | fail)) [forKV, f1_l0, hLL, hlt, hat, m7, sh, ba, hV, c1, c2]
        · rw [if_neg c2]
          have e1 : forKV (.nm 5) (vexs (vcallsN G 3 q) f1_l0) (.int k) [some (.tup (il xs)), some (.int at_), X2, X3, some (.int v), x5, x6] w = .nx [some (.tup (il xs)), some (.int at_), X2, X3, some (.int V), some (.int k), some (.int ((at_ : Int) + 1 + (k : Int)))] w := by
            generalize il xs = X at *
            generalize P2 (7 * k) = pk at *
            obtain ⟨L, hLL⟩ : ∃ L : Int, (X.length : Int) = L := ⟨_, rfl⟩
            rw [hLL] at hlt
            generalize (at_ : Int) = ai at *
            generalize (k : Int) = ki at *
            clear hL
            simp (disch := (first | assumption | omega | (simp only [List.length_append, List.length_cons, List.length_nil, List.length_map, List.length_replicate] <;> omega) | fail)) [forKV, f1_l0, hLL, hlt, hat, m7, sh, ba, hV, c1, c2]
          rw [e1, forC_nx]
          exact rd_loop q w xs hx ho at_ X2 X3 l (k + 1) V _ _ (by omega)
theorem read_int_eq (q : Nat) (w : W) (xs : List Int) (hx : xs.length ≤ 1000) (ho : ∀ x ∈ xs, 0 ≤ x) (at_ : Nat) (ha : at_ ≤ 1000) {n : Nat} (h : 1 ≤ n) (h2 : n ≤ 8) : vcallN G 3 (q + 1) 1 [.tup (il xs), .int at_, .int n] w = rdC w (RD xs at_ n) := by
  rw [vcallN_eq (d := f1) rfl]
  have s1 := shl_1 h2
  obtain ⟨b1, b2⟩ := P2_b h h2
  have hat : atI (il xs) (at_ : Int) = (xs[at_]?).map PV.int := il_get xs at_
  have hL := il_len xs
  have h5 : inH 5 = true := inH_of (by decide) (by decide)
  unfold RD
  cases qx : xs[at_]? with
  | none =>
    rw [qx] at hat
    have hle : ((il xs).length : Int) ≤ (at_ : Int) := by rw [hL]; have := List.getElem?_eq_none_iff.mp qx; omega
    dsimp only
    rw [← hL]
    unfold rdC SHORT
    dsimp only
    generalize il xs = X at *
    obtain ⟨L, hLL⟩ : ∃ L : Int, (X.length : Int) = L := ⟨_, rfl⟩
    rw [hLL] at hle ⊢
    generalize (at_ : Int) = ai at *
    generalize (n : Int) = ni at *
    clear hL
    simp (disch := (first | assumption | omega | (simp only [List.length_append, List.length_cons, List.length_nil, List.length_map, List.length_replicate] <;> omega) | fail)) [f1, hLL, hle]
  | some o =>
    rw [qx] at hat
    have hlt : ¬ ((il xs).length : Int) ≤ (at_ : Int) := by rw [hL]; have := (List.getElem?_eq_some_iff.mp qx).1; omega
    have ba := and_P2 h h2 o
    dsimp only
    by_cases c1 : o % P2 n < P2 n - 1
    · rw [if_pos c1]
      unfold rdC
      dsimp only
      have hc : ((at_ + 1 : Nat) : Int) = (at_ : Int) + 1 := by omega
      rw [hc]
      generalize il xs = X at *
      obtain ⟨L, hLL⟩ : ∃ L : Int, (X.length : Int) = L := ⟨_, rfl⟩
      rw [hLL] at hlt
      generalize P2 n = p at *
      generalize hop : o % p = op at *
      generalize (at_ : Int) = ai at *
      generalize (n : Int) = ni at *
      clear hL
      simp (disch := (first | assumption | omega | (simp only [List.length_append, List.length_cons, List.length_nil, List.length_map, List.length_replicate] <;> omega) | fail)) [f1, hLL, hlt, hat, s1, ba, c1]
    · rw [if_neg c1]
      have hm : o % P2 n = P2 n - 1 := mod_full (by omega) c1
      have L5 := rd_loop q w xs hx ho at_ (some (.int n)) (some (.int (P2 n - 1))) 5 0 (P2 n - 1) none none (by decide)
      rw [show ((0 : Nat) : Int) = 0 from rfl] at L5
      rcases L5 with ⟨a4, a5, a6, e, er⟩ | ⟨s, e⟩
      · rw [er]
        unfold rdC NUM
        dsimp only
        generalize il xs = X at *
        obtain ⟨L, hLL⟩ : ∃ L : Int, (X.length : Int) = L := ⟨_, rfl⟩
        rw [hLL] at hlt
        generalize P2 n = p at *
        generalize (at_ : Int) = ai at *
        generalize (n : Int) = ni at *
        clear hL
        simp (disch := (first | assumption | omega | (simp only [List.length_append, List.length_cons, List.length_nil, List.length_map, List.length_replicate] <;> omega) | fail)) [f1, hLL, hlt, hat, s1, ba, hm, h5, e]
      · generalize rdL xs at_ 5 0 (P2 n - 1) = R at e ⊢
        generalize il xs = X at *
        obtain ⟨L, hLL⟩ : ∃ L : Int, (X.length : Int) = L := ⟨_, rfl⟩
        rw [hLL] at hlt
        generalize P2 n = p at *
        generalize (at_ : Int) = ai at *
        generalize (n : Int) = ni at *
        clear hL
        cases R with
        | val v b => unfold rdO at e; unfold rdC; dsimp only at e ⊢; generalize (b : Int) = bi at *; simp (disch := (first | assumption | omega | (simp only [List.length_append, List.length_cons, List.length_nil, List.length_map, List.length_replicate] <;> omega) | fail)) [f1, hLL, hlt, hat, s1, ba, hm, h5, e]
        | flt t a => unfold rdO at e; unfold rdC; dsimp only at e ⊢; generalize (a : Int) = bi at *; simp (disch := (first | assumption | omega | (simp only [List.length_append, List.length_cons, List.length_nil, List.length_map, List.length_replicate] <;> omega) | fail)) [f1, hLL, hlt, hat, s1, ba, hm, h5, e]
theorem lrd_loop (q : Nat) (w : W) (xs : List Int) (hx : xs.length ≤ 1000) (ho : ∀ x ∈ xs, 0 ≤ x) (at_ : Nat) (X2 X3 : Option PV) : ∀ (l k : Nat) (v : Int) (x5 x6 : Option PV), k + l ≤ 5 →
    (∃ a4 a5 a6, vforV (forKV (.nm 5) (vexs (vcallsN G 3 q) f7_l0)) none (rngV k 1 l) [some (.tup (il xs)), some (.int at_), X2, X3, some (.int v), x5, x6] w = .nx [some (.tup (il xs)), some (.int at_), X2, X3, a4, a5, a6] w ∧ rdL xs at_ l k v = .flt NUM at_) ∨
    vforV (forKV (.nm 5) (vexs (vcallsN G 3 q) f7_l0)) none (rngV k 1 l) [some (.tup (il xs)), some (.int at_), X2, X3, some (.int v), x5, x6] w = rdLO w (rdL xs at_ l k v)
  | 0, k, v, x5, x6, _ => .inl ⟨_, _, _, vfor_nil _ _ _, rfl⟩
  | l + 1, k, v, x5, x6, hk => by
    rw [show rngV (k : Int) 1 (l + 1) = .int k :: rngV ((k + 1 : Nat) : Int) 1 l from rfl, vfor_cons]
    have hat : atI (il xs) ((at_ : Int) + 1 + (k : Int)) = (xs[at_ + 1 + k]?).map PV.int := by rw [← il_get]; rfl
    have hL := il_len xs
    have m7 : mulI 7 (k : Int) = some (.int (7 * (k : Int))) := mulI_small (by decide) (by decide) (by omega) (by omega)
    unfold rdL
    cases qx : xs[at_ + 1 + k]? with
    | none =>
      right
      rw [qx] at hat
      have hle : ((il xs).length : Int) ≤ (at_ : Int) + 1 + (k : Int) := by rw [hL]; have := List.getElem?_eq_none_iff.mp qx; omega
      dsimp only
      rw [← hL]
      unfold rdLO SHORT
      dsimp only
      
      generalize il xs = X at *
      obtain ⟨L, hLL⟩ : ∃ L : Int, (X.length : Int) = L := ⟨_, rfl⟩
      rw [hLL] at hle ⊢
      generalize (at_ : Int) = ai at *
      generalize (k : Int) = ki at *
      clear hL
      simp (disch := (first | assumption | omega | (simp only [List.length_append, List.length_cons, List.length_nil, List.length_map, List.length_replicate] <;> omega) | fail)) [forKV, f7_l0, hLL, hle]
    | some o =>
      rw [qx] at hat
      have hlt : ¬ ((il xs).length : Int) ≤ (at_ : Int) + 1 + (k : Int) := by rw [hL]; have := (List.getElem?_eq_some_iff.mp qx).1; omega
      have o0 : 0 ≤ o := ho o (List.mem_of_getElem? qx)
      have sh := shl_k (x := o % 128) (by omega) (by omega) k (by omega)
      have ba := PyProof.Rows.bitAnd_m7 o
      dsimp only
      generalize hV : v + o % 128 * P2 (7 * k) = V at *
      by_cases c1 : V > 2147483647
      · right
        rw [if_pos c1]
        unfold rdLO NUM
        dsimp only
        
        generalize il xs = X at *
        generalize P2 (7 * k) = pk at *
        obtain ⟨L, hLL⟩ : ∃ L : Int, (X.length : Int) = L := ⟨_, rfl⟩
        rw [hLL] at hlt
        generalize (at_ : Int) = ai at *
        generalize (k : Int) = ki at *
        clear hL
        simp (disch := (first | assumption | omega | (simp only [List.length_append, List.length_cons, List.length_nil, List.length_map, List.length_replicate] <;> omega) | fail)) [forKV, f7_l0, hLL, hlt, hat, m7, sh, ba, hV, c1, p31]
      · rw [if_neg c1]
        by_cases c2 : o < 128
        · right
          rw [if_pos c2]
          unfold rdLO
          dsimp only
          have hc : ((at_ + 2 + k : Nat) : Int) = (at_ : Int) + 2 + (k : Int) := by omega
          rw [hc]
          
          generalize il xs = X at *
          generalize P2 (7 * k) = pk at *
          obtain ⟨L, hLL⟩ : ∃ L : Int, (X.length : Int) = L := ⟨_, rfl⟩
          rw [hLL] at hlt
          generalize (at_ : Int) = ai at *
          generalize (k : Int) = ki at *
          clear hL
          simp (disch := (first | assumption | omega | (simp only [List.length_append, List.length_cons, List.length_nil, List.length_map, List.length_replicate] <;> omega) | fail)) [forKV, f7_l0, hLL, hlt, hat, m7, sh, ba, hV, c1, c2, p31]
        · rw [if_neg c2]
          have e1 : forKV (.nm 5) (vexs (vcallsN G 3 q) f7_l0) (.int k) [some (.tup (il xs)), some (.int at_), X2, X3, some (.int v), x5, x6] w = .nx [some (.tup (il xs)), some (.int at_), X2, X3, some (.int V), some (.int k), some (.int o)] w := by
            generalize il xs = X at *
            generalize P2 (7 * k) = pk at *
            obtain ⟨L, hLL⟩ : ∃ L : Int, (X.length : Int) = L := ⟨_, rfl⟩
            rw [hLL] at hlt
            generalize (at_ : Int) = ai at *
            generalize (k : Int) = ki at *
            clear hL
            simp (disch := (first | assumption | omega | (simp only [List.length_append, List.length_cons, List.length_nil, List.length_map, List.length_replicate] <;> omega) | fail)) [forKV, f7_l0, hLL, hlt, hat, m7, sh, ba, hV, c1, c2, p31]
          rw [e1, forC_nx]
          exact lrd_loop q w xs hx ho at_ X2 X3 l (k + 1) V _ _ (by omega)
theorem lread_eq (q : Nat) (w : W) (xs : List Int) (hx : xs.length ≤ 1000) (ho : ∀ x ∈ xs, 0 ≤ x) (at_ : Nat) (ha : at_ ≤ 1000) {n : Nat} (h : 1 ≤ n) (h2 : n ≤ 8) : vcallN G 3 (q + 1) 7 [.tup (il xs), .int at_, .int n] w = rdVC w (RD xs at_ n) := by
  rw [vcallN_eq (d := f7) rfl]
  have s1 := shl_1 h2
  obtain ⟨b1, b2⟩ := P2_b h h2
  have hat : atI (il xs) (at_ : Int) = (xs[at_]?).map PV.int := il_get xs at_
  have hL := il_len xs
  have h5 : inH 5 = true := inH_of (by decide) (by decide)
  unfold RD
  cases qx : xs[at_]? with
  | none =>
    rw [qx] at hat
    have hle : ((il xs).length : Int) ≤ (at_ : Int) := by rw [hL]; have := List.getElem?_eq_none_iff.mp qx; omega
    dsimp only
    rw [← hL]
    unfold rdVC SHORT
    dsimp only
    generalize il xs = X at *
    obtain ⟨L, hLL⟩ : ∃ L : Int, (X.length : Int) = L := ⟨_, rfl⟩
    rw [hLL] at hle ⊢
    generalize (at_ : Int) = ai at *
    generalize (n : Int) = ni at *
    clear hL
    simp (disch := (first | assumption | omega | (simp only [List.length_append, List.length_cons, List.length_nil, List.length_map, List.length_replicate] <;> omega) | fail)) [f7, hLL, hle]
  | some o =>
    rw [qx] at hat
    have hlt : ¬ ((il xs).length : Int) ≤ (at_ : Int) := by rw [hL]; have := (List.getElem?_eq_some_iff.mp qx).1; omega
    have ba := and_P2 h h2 o
    dsimp only
    by_cases c1 : o % P2 n < P2 n - 1
    · rw [if_pos c1]
      unfold rdVC
      dsimp only
      have hc : ((at_ + 1 : Nat) : Int) = (at_ : Int) + 1 := by omega
      rw [hc]
      generalize il xs = X at *
      obtain ⟨L, hLL⟩ : ∃ L : Int, (X.length : Int) = L := ⟨_, rfl⟩
      rw [hLL] at hlt
      generalize P2 n = p at *
      generalize hop : o % p = op at *
      generalize (at_ : Int) = ai at *
      generalize (n : Int) = ni at *
      clear hL
      simp (disch := (first | assumption | omega | (simp only [List.length_append, List.length_cons, List.length_nil, List.length_map, List.length_replicate] <;> omega) | fail)) [f7, hLL, hlt, hat, s1, ba, c1]
    · rw [if_neg c1]
      have hm : o % P2 n = P2 n - 1 := mod_full (by omega) c1
      have L5 := lrd_loop q w xs hx ho at_ (some (.int n)) (some (.int (P2 n - 1))) 5 0 (P2 n - 1) none none (by decide)
      rw [show ((0 : Nat) : Int) = 0 from rfl] at L5
      rcases L5 with ⟨a4, a5, a6, e, er⟩ | e
      · rw [er]
        unfold rdVC NUM
        dsimp only
        generalize il xs = X at *
        obtain ⟨L, hLL⟩ : ∃ L : Int, (X.length : Int) = L := ⟨_, rfl⟩
        rw [hLL] at hlt
        generalize P2 n = p at *
        generalize (at_ : Int) = ai at *
        generalize (n : Int) = ni at *
        clear hL
        simp (disch := (first | assumption | omega | (simp only [List.length_append, List.length_cons, List.length_nil, List.length_map, List.length_replicate] <;> omega) | fail)) [f7, hLL, hlt, hat, s1, ba, hm, h5, e]
      · generalize rdL xs at_ 5 0 (P2 n - 1) = R at e ⊢
        generalize il xs = X at *
        obtain ⟨L, hLL⟩ : ∃ L : Int, (X.length : Int) = L := ⟨_, rfl⟩
        rw [hLL] at hlt
        generalize P2 n = p at *
        generalize (at_ : Int) = ai at *
        generalize (n : Int) = ni at *
        clear hL
        cases R with
        | val v b => unfold rdLO at e; unfold rdVC; dsimp only at e ⊢; generalize (b : Int) = bi at *; simp (disch := (first | assumption | omega | (simp only [List.length_append, List.length_cons, List.length_nil, List.length_map, List.length_replicate] <;> omega) | fail)) [f7, hLL, hlt, hat, s1, ba, hm, h5, e]
        | flt t a => unfold rdLO at e; unfold rdVC; dsimp only at e ⊢; generalize (a : Int) = bi at *; simp (disch := (first | assumption | omega | (simp only [List.length_append, List.length_cons, List.length_nil, List.length_map, List.length_replicate] <;> omega) | fail)) [f7, hLL, hlt, hat, s1, ba, hm, h5, e]

end LK

namespace LK
open PySem PySem.Spec L2 MP
theorem pickS (L : List (List Nat)) {y : Int} (h : 0 ≤ y) (h2 : y < L.length) : ∃ s, atI (L.map PV.str) y = some (.str s) ∧ s ∈ L := by
  obtain ⟨v, e, m⟩ := pickV (xs := L.map PV.str) h (by rw [List.length_map]; exact h2)
  obtain ⟨s, hs, rfl⟩ := List.mem_map.mp m
  exact ⟨s, e, hs⟩
theorem pickI (L : List Int) {y : Int} (h : 0 ≤ y) (h2 : y < L.length) : ∃ s, atI (L.map PV.int) y = some (.int s) ∧ s ∈ L := by
  obtain ⟨v, e, m⟩ := pickV (xs := L.map PV.int) h (by rw [List.length_map]; exact h2)
  obtain ⟨s, hs, rfl⟩ := List.mem_map.mp m
  exact ⟨s, e, hs⟩
theorem chars_ofV {P : Nat → Prop} : ∀ {ys : List PV}, (∀ y ∈ ys, ∃ c : Nat, P c ∧ y = .str [c]) → ∃ s : List Nat, (ys = s.map fun c => .str [c]) ∧ ∀ c ∈ s, P c
  | [], _ => ⟨[], rfl, fun _ h => absurd h List.not_mem_nil⟩
  | y :: ys, h => by
    obtain ⟨s, e, hp⟩ := chars_ofV (ys := ys) fun z hz => h z (List.mem_cons_of_mem _ hz)
    obtain ⟨c, h1, rfl⟩ := h y List.mem_cons_self
    exact ⟨c :: s, by rw [e]; rfl, fun x hx => by
      rcases List.mem_cons.mp hx with rfl | hx
      · exact h1
      · exact hp x hx⟩
def nth : Nat → Ss → S
  | 0, .cons s _ => s
  | n + 1, .cons _ r => nth n r
  | _, .nil => .pass
/-! what is written is read -/
theorem P2_7 (k : Nat) : P2 (7 * (k + 1)) = 128 * P2 (7 * k) := by
  unfold P2
  rw [show 7 * (k + 1) = 7 * k + 7 by omega, Nat.pow_add]
  push_cast
  omega
theorem P2_pos (k : Nat) : 0 < P2 k := by
  unfold P2
  have := Nat.two_pow_pos k
  omega
theorem dgs_pos (k : Nat) (v : Int) : 0 < (dgs k v).length := by cases k with
  | zero => simp [dgs]
  | succ k => unfold dgs; split <;> simp
theorem drop_get {α : Type} {xs ys : List α} {i : Nat} {y : α} (h : xs.drop i = y :: ys) : xs[i]? = some y ∧ xs.drop (i + 1) = ys := by
  constructor
  · have := List.getElem?_drop (xs := xs) (i := i) (j := 0)
    rw [h] at this
    simpa using this.symm
  · rw [← List.drop_drop, h]
    rfl
theorem rdL_ok (xs B : List Int) (at_ : Nat) : ∀ (l k : Nat) (acc v : Int), xs.drop (at_ + 1 + k) = dgs l v ++ B → 0 ≤ v → v < 128 ^ (l + 1) → acc + v * P2 (7 * k) ≤ 2147483647 → rdL xs at_ (l + 1) k acc = .val (acc + v * P2 (7 * k)) (at_ + 1 + k + (dgs l v).length)
  | l, k, acc, v, hd, h0, h1, h2 => by
    by_cases c : v < 128
    · have hdg : dgs l v = [v] := by cases l <;> simp [dgs, c]
      rw [hdg] at hd ⊢
      obtain ⟨g1, _⟩ := drop_get hd
      have hm : v % 128 = v := by omega
      rw [rdL, g1]
      simp only [hm]
      rw [if_neg (by omega), if_pos c]
      simp
      omega
    · cases l with
      | zero => omega
      | succ l =>
        rw [dgs, if_neg c] at hd ⊢
        obtain ⟨g1, g2⟩ := drop_get hd
        have hm : (v % 128 + 128) % 128 = v % 128 := by omega
        have pp := P2_pos (7 * k)
        have e7 := P2_7 k
        have hp : (128 : Int) ^ (l + 1 + 1) = 128 ^ (l + 1) * 128 := by rw [Int.pow_succ]
        have key : acc + v % 128 * P2 (7 * k) + v / 128 * P2 (7 * (k + 1)) = acc + v * P2 (7 * k) := by
          rw [e7, ← Int.mul_assoc, Int.add_assoc, ← Int.add_mul]
          congr 2
          omega
        have le : acc + v % 128 * P2 (7 * k) ≤ acc + v * P2 (7 * k) := by
          have := Int.mul_le_mul_of_nonneg_right (show v % 128 ≤ v by omega) (Int.le_of_lt pp)
          omega
        have ih := rdL_ok xs B at_ l (k + 1) (acc + v % 128 * P2 (7 * k)) (v / 128) (by rw [show at_ + 1 + (k + 1) = at_ + 1 + k + 1 by omega]; exact g2) (by omega) (by omega) (by rw [key]; exact h2)
        rw [rdL, g1]
        simp only [hm]
        rw [if_neg (by omega), if_neg (by omega), ih, key]
        simp only [List.length_cons]
        congr 1
        omega
theorem RD_ok (A B : List Int) {n : Nat} (h : 1 ≤ n) (h2 : n ≤ 8) {v f : Int} (v0 : 0 ≤ v) (v1 : v ≤ 2147483647) (hf : f % P2 n = 0) : RD (A ++ WI n v f ++ B) A.length n = .val v (A.length + (WI n v f).length) := by
  obtain ⟨b1, b2⟩ := P2_b h h2
  unfold RD WI
  by_cases c : v < P2 n - 1
  · rw [if_pos c]
    have g : (A ++ [f + v] ++ B)[A.length]? = some (f + v) := by simp
    have m : (f + v) % P2 n = v := by rw [Int.add_emod, hf, Int.zero_add, Int.emod_emod, Int.emod_eq_of_lt v0 (by omega)]
    rw [g]
    simp only [m]
    rw [if_pos c]
    rfl
  · rw [if_neg c]
    have g : (A ++ (f + (P2 n - 1)) :: dgs 4 (v - (P2 n - 1)) ++ B)[A.length]? = some (f + (P2 n - 1)) := by simp
    have m : (f + (P2 n - 1)) % P2 n = P2 n - 1 := by rw [Int.add_emod, hf, Int.zero_add, Int.emod_emod, Int.emod_eq_of_lt (by omega) (by omega)]
    rw [g]
    simp only [m]
    rw [if_neg (by omega)]
    have e0 : P2 (7 * 0) = 1 := rfl
    have := rdL_ok (A ++ (f + (P2 n - 1)) :: dgs 4 (v - (P2 n - 1)) ++ B) B A.length 4 0 (P2 n - 1) (v - (P2 n - 1)) (by simp [List.drop_append]) (by omega) (by
      have : (128 : Int) ^ (4 + 1) = 34359738368 := by decide
      omega) (by rw [e0]; omega)
    rw [this, e0]
    simp only [List.length_cons]
    congr 1 <;> omega
theorem dgs_nn : ∀ (k : Nat) (v : Int), 0 ≤ v → ∀ x ∈ dgs k v, 0 ≤ x
  | 0, v, h, x, hx => by simp [dgs] at hx; omega
  | k + 1, v, h, x, hx => by
    unfold dgs at hx
    split at hx
    · simp at hx; omega
    · rcases List.mem_cons.mp hx with rfl | hx
      · omega
      · exact dgs_nn k (v / 128) (by omega) x hx
theorem WI_nn {n : Nat} (h : 1 ≤ n) (h2 : n ≤ 8) {v f : Int} (v0 : 0 ≤ v) (hf : 0 ≤ f) : ∀ x ∈ WI n v f, 0 ≤ x := by
  obtain ⟨b1, b2⟩ := P2_b h h2
  intro x hx
  unfold WI at hx
  split at hx
  · simp at hx; omega
  · rename_i c
    rcases List.mem_cons.mp hx with rfl | hx
    · omega
    · exact dgs_nn _ _ (by omega) x hx
/-! the law's own -/
theorem value_ex (m : Nat) (d : DSo) (H : VH) {n : Nat} (h : 1 ≤ n) (h2 : n ≤ 8) : ∃ (v : Int) (d' : DSo), 0 ≤ v ∧ v ≤ 2147483647 ∧ vcallN G 3 (m + 2) 5 [.drw, .int n] ⟨d, H⟩ = .ok (.int v) ⟨d', H⟩ := by
  rw [vcallN_eq (d := f5) rfl]
  obtain ⟨k, d1, k0, k1, e1⟩ := draw_exO d (many := 8) (by decide)
  obtain ⟨b1, b2⟩ := P2_b h h2
  have s1 := shl_1 h2
  by_cases c0 : k = 0
  · obtain ⟨v, d2, v0, v1, e2⟩ := draw_exO d1 (many := 40) (by decide)
    exact ⟨v, d2, v0, by omega, by simp (disch := (first | assumption | omega | (simp only [List.length_append, List.length_cons, List.length_nil, List.length_map, List.length_replicate] <;> omega) | fail)) [f5, e1, c0, e2]⟩
  · by_cases c1 : k < 4
    · obtain ⟨t, d2, t0, t1, e2⟩ := draw_exO d1 (many := 5) (by decide)
      obtain ⟨b, hb, hm⟩ := pickI [P2 n, 127 + P2 n, 16383 + P2 n] (y := k - 1) (by omega) (by simp; omega)
      simp only [List.map_cons, List.map_nil] at hb
      have hb2 : 0 ≤ b ∧ b ≤ 16639 := by
        simp at hm
        omega
      refine ⟨if 0 < b - 2 + t then b - 2 + t else 0, d2, by split <;> omega, by split <;> omega, ?_⟩
      generalize P2 n = p at *
      generalize (n : Int) = ni at *
      by_cases c2 : 0 < b - 2 + t
      · simp (disch := (first | assumption | omega | (simp only [List.length_append, List.length_cons, List.length_nil, List.length_map, List.length_replicate] <;> omega) | fail)) [f5, e1, c0, c1, e2, s1, hb, c2]
      · simp (disch := (first | assumption | omega | (simp only [List.length_append, List.length_cons, List.length_nil, List.length_map, List.length_replicate] <;> omega) | fail)) [f5, e1, c0, c1, e2, s1, hb, c2]
    · by_cases c4 : k = 4
      · obtain ⟨t, d2, t0, t1, e2⟩ := draw_exO d1 (many := 3) (by decide)
        exact ⟨2147483648 - 1 - t, d2, by omega, by omega, by simp (disch := (first | assumption | omega | (simp only [List.length_append, List.length_cons, List.length_nil, List.length_map, List.length_replicate] <;> omega) | fail)) [f5, e1, c4, e2, p31]⟩
      · by_cases c5 : k = 5
        · obtain ⟨t, d2, t0, t1, e2⟩ := draw_exO d1 (many := 2147483648) (by decide)
          exact ⟨t, d2, by omega, by omega, by simp (disch := (first | assumption | omega | (simp only [List.length_append, List.length_cons, List.length_nil, List.length_map, List.length_replicate] <;> omega) | fail)) [f5, e1, c5, e2, p31]⟩
        · obtain ⟨t, d2, t0, t1, e2⟩ := draw_exO d1 (many := 70000) (by decide)
          exact ⟨t, d2, by omega, by omega, by simp (disch := (first | assumption | omega | (simp only [List.length_append, List.length_cons, List.length_nil, List.length_map, List.length_replicate] <;> omega) | fail)) [f5, e1, c0, c1, c4, c5, e2]⟩
theorem fault_eq (q : Nat) (w : W) (xs : List Int) (hx : xs.length ≤ 1000) (ho : ∀ x ∈ xs, 0 ≤ x) (at_ : Nat) (ha : at_ ≤ 1000) {n : Nat} (h : 1 ≤ n) (h2 : n ≤ 8) {t : List Nat} {a : Nat} (e : RD xs at_ n = .flt t a) :
    vcallN G 3 (q + 2) 6 [.tup (il xs), .int at_, .int n] w = .ok (.tup [.str t, .int a]) w := by
  rw [vcallN_eq (d := f6) rfl]
  have r := read_int_eq q w xs hx ho at_ ha h h2
  rw [e] at r
  unfold rdC at r
  dsimp only at r
  generalize il xs = X at *
  generalize (at_ : Int) = ai at *
  generalize (n : Int) = ni at *
  generalize (a : Int) = bi at *
  simp (disch := (first | assumption | omega | (simp only [List.length_append, List.length_cons, List.length_nil, List.length_map, List.length_replicate] <;> omega) | fail)) [f6, r]
theorem flt_word {xs : List Int} {at_ : Nat} : ∀ {l k : Nat} {v : Int} {t : List Nat} {a : Nat}, rdL xs at_ l k v = .flt t a → t = SHORT ∨ t = NUM
  | 0, k, v, t, a, e => by rw [rdL] at e; cases e; exact .inr rfl
  | l + 1, k, v, t, a, e => by
    rw [rdL] at e
    split at e
    · cases e; exact .inl rfl
    · split at e
      · cases e; exact .inr rfl
      · split at e
        · cases e
        · exact flt_word e
theorem RD_word {xs : List Int} {at_ n : Nat} {t : List Nat} {a : Nat} (e : RD xs at_ n = .flt t a) : t = SHORT ∨ t = NUM := by
  unfold RD at e
  split at e
  · cases e; exact .inl rfl
  · split at e
    · cases e
    · exact flt_word e

end LK

namespace LK
open PySem PySem.Spec L2 MP
/-! one turn of the law -/
theorem rng_mem {c : Nat} {v : PV} (h : v ∈ rngV 0 1 c) : ∃ k : Nat, k < c ∧ v = .int (k : Int) := by
  obtain ⟨i, h1, rfl⟩ := rngV_mem h
  exact ⟨i, h1, by simp⟩
theorem cut_m1 {α : Type} (xs : List α) (x : α) : cutL (xs ++ [x]) none (some (-1)) = xs := by
  show ((xs ++ [x]).drop 0).take _ = xs
  have : HT.sIx (xs ++ [x]).length (xs ++ [x]).length (some (-1)) - HT.sIx (xs ++ [x]).length 0 none = xs.length := by
    simp [HT.sIx]
    omega
  rw [this]
  simp
/-- drawn octets -/
theorem oct_ex (m : Nat) (d : DSo) (H : VH) (S : VSl) (hS : S.length = 14) (h1 : S[1]? = some (some .drw)) (h13 : S[13]? = some none) : ∃ (xs : List Int) (d' : DSo), (∀ x ∈ xs, 0 ≤ x) ∧ xs.length ≤ 2 ∧
    vx (vcallsN G 3 (m + 1)) (.lc (.call 3 (.cons (.var 1) (.cons (.int 256) .nil))) (.nm 13) (.rng1 (.call 3 (.cons (.var 1) (.cons (.int 3) .nil)))) .none [("_law_k", 13)]) S ⟨d, H⟩ = .ok (.v (.lst .ow (il xs))) S ⟨d', H⟩ := by
  obtain ⟨k, d1, k0, k1, e1⟩ := draw_exO d (many := 3) (by decide)
  have hk : inH k = true := inH_of (by omega) (by omega)
  obtain ⟨ys, d2, e2, hl, hq⟩ := lc_drawV (C := vcallsN G 3 (m + 1)) (elt := .call 3 (.cons (.var 1) (.cons (.int 256) .nil))) (tg := .nm 13) (it := .rng1 (.call 3 (.cons (.var 1) (.cons (.int 3) .nil)))) (cond := .none) (own := [("_law_k", 13)]) (s := S) (s1 := S) (w := ⟨d, H⟩) (d1 := d1) (H := H) (items := rngV 0 1 k.toNat) (fun y => ∃ i : Int, 0 ≤ i ∧ y = .int i) (by clear hS h13; simp (disch := (first | assumption | omega | (simp only [List.length_append, List.length_cons, List.length_nil, List.length_map, List.length_replicate] <;> omega) | fail)) [e1, hk, h1]) (fun v hv d => by
      obtain ⟨z, d', z0, z1, ez⟩ := draw_exO d (many := 256) (by decide)
      have g1 : ((wipeV S [13, 13]).set 13 (some v))[1]? = some (some PV.drw) := by simp [h1]
      refine ⟨.int z, (wipeV S [13, 13]).set 13 (some v), d', ?_, ?_, z, z0, rfl⟩
      · show stepX [13, 13] (.nm 13) _ _ v S ⟨d, H⟩ = _
        unfold stepX setTV
        simp only [q_vxc_none, VR.bind_ok]
        generalize (wipeV S [13, 13]).set 13 (some v) = S2 at g1 ⊢
        simp (disch := (first | assumption | omega | (simp only [List.length_append, List.length_cons, List.length_nil, List.length_map, List.length_replicate] <;> omega) | fail)) [ez, g1]
      · show wipeV ((wipeV S [13, 13]).set 13 (some v)) [13, 13] = wipeV S [13, 13]
        simp) (by rw [rngV_len]; omega)
  obtain ⟨xs, rfl, hx⟩ := ints_ofP ys hq
  refine ⟨xs, d2, hx, by rw [il_len, rngV_len] at hl; omega, ?_⟩
  rw [e2]
  congr 1
  show ((S.set 13 _).set 13 _) = S
  have : plainO (slG' S[13]?) = none := by rw [h13]; rfl
  rw [this, List.set_set]
  refine List.ext_getElem? fun i => ?_
  by_cases c : i = 13
  · subst c
    rw [List.getElem?_set_self (by omega), h13]
  · rw [List.getElem?_set_ne (Ne.symm c)]
def S14 (x2 x7 x10 x11 x12 : Option PV) (n f v : Int) (R A B : List PV) : VSl := [none, some .drw, x2, some (.int n), some (.int f), some (.int v), some (.lst .ow R), x7, some (.lst .ow A), some (.lst .ow B), x10, x11, x12, none]
/-- the row with digits 0 -/
theorem row1_ex (d : DSo) (H : VH) (x2 x7 x10 x12 : Option PV) (n f v : Int) (R : List Int) (A B : List PV) {more : Int} (hR : ∀ x ∈ R, 0 ≤ x) (hl : R.length ≤ 6) (m0 : 0 ≤ more) (m1 : more < 4) : ∃ (R' : List Int) (d' : DSo), (∀ x ∈ R', 0 ≤ x) ∧ R'.length ≤ 20 ∧
    vex (vcallsN G 3 7) (nth 11 f8_l0) (S14 x2 x7 x10 (some (.int more)) x12 n f v (il R) A B) ⟨d, H⟩ = .nx (S14 x2 x7 x10 (some (.int more)) x12 n f v (il R') A B) ⟨d', H⟩ := by
  have L := il_len R
  by_cases c : 1 < R.length
  · rcases List.eq_nil_or_concat R with rfl | ⟨I, z, rfl⟩
    · simp at c
    · rw [List.concat_eq_append] at *
      obtain ⟨t, d2, t0, t1, e2⟩ := draw_exO d (many := 2) (by decide)
      have hz : 0 ≤ z := hR z (by simp)
      refine ⟨I ++ [z + 128] ++ List.replicate more.toNat 128 ++ [t], d2, fun x hx => ?_, by simp at hl ⊢; omega, ?_⟩
      · simp only [List.mem_append, List.mem_singleton, List.mem_replicate] at hx
        rcases hx with ((hx | hx) | hx) | hx
        · exact hR x (by simp [hx])
        · omega
        · omega
        · omega
      · have hm : inH more = true := inH_of (by omega) (by omega)
        have e3 : vx (vcallsN G 3 7) f8_c2 (S14 x2 x7 x10 (some (.int more)) x12 n f v (il (I ++ [z])) A B) ⟨d, H⟩ = .ok (.v (.lst .ow (il (List.replicate more.toNat 128)))) (S14 x2 x7 x10 (some (.int more)) x12 n f v (il (I ++ [z])) A B) ⟨d, H⟩ := by
          have e2 := lc_pure (C := vcallsN G 3 7) (elt := .int 128) (tg := .nm 13) (it := .rng1 (.var 11)) (cond := .none) (own := [("_law_k", 13)]) (s := S14 x2 x7 x10 (some (.int more)) x12 n f v (il (I ++ [z])) A B) (s1 := S14 x2 x7 x10 (some (.int more)) x12 n f v (il (I ++ [z])) A B) (w := ⟨d, H⟩) (w1 := ⟨d, H⟩)
            (items := rngV 0 1 more.toNat) (fun _ => some (.int 128)) (by unfold S14; generalize il (I ++ [z]) = R; simp (disch := (first | assumption | omega | (simp only [List.length_append, List.length_cons, List.length_nil, List.length_map, List.length_replicate] <;> omega) | fail)) [hm]) (fun y hy => by
              obtain ⟨k, hk, rfl⟩ := rng_mem hy
              exact ⟨[none, some .drw, x2, some (.int n), some (.int f), some (.int v), some (.lst .ow (il (I ++ [z]))), x7, some (.lst .ow A), some (.lst .ow B), x10, some (.int more), x12, some (.int k)], by unfold S14; generalize il (I ++ [z]) = R; simp (disch := (first | assumption | omega | (simp only [List.length_append, List.length_cons, List.length_nil, List.length_map, List.length_replicate] <;> omega) | fail)) [], rfl⟩) (by rw [rngV_len]; omega)
          have e3 : (rngV 0 1 more.toNat).filterMap (fun _ => some (PV.int 128)) = il (List.replicate more.toNat 128) := by
            rw [fm_some, il_rep, List.eq_replicate_iff]
            exact ⟨by rw [List.length_map, rngV_len], fun b hb => by obtain ⟨k, _, rfl⟩ := List.mem_map.mp hb; rfl⟩
          rw [e3] at e2
          exact e2
        have hc : 1 < ((il (I ++ [z])).length : Int) := by rw [il_len]; omega
        have q1 : cutL (il (I ++ [z])) none (some (-1)) = il I := by rw [il_app]; exact cut_m1 _ _
        have q2 : atI (il (I ++ [z])) (-1) = some (.int z) := by rw [atI_neg1, il_app]; simp [il]
        have l1 := il_len I
        have l2 := il_len (List.replicate more.toNat 128)
        rw [List.length_replicate] at l2
        simp at hl
        have e5 : il (I ++ [z + 128] ++ List.replicate more.toNat 128 ++ [t]) = (il I ++ [.int (z + 128)]) ++ il (List.replicate more.toNat 128) ++ [.int t] := by simp [il]
        rw [e5]
        unfold S14 at e3 ⊢
        generalize il (I ++ [z]) = R at *
        generalize il (List.replicate more.toNat 128) = Z at *
        generalize il I = II at *
        obtain ⟨L, hLL⟩ : ∃ L : Int, (R.length : Int) = L := ⟨_, rfl⟩
        rw [hLL] at hc
        clear e5
        simp (disch := (first | assumption | omega | (simp only [List.length_append, List.length_cons, List.length_nil, List.length_map, List.length_replicate] <;> omega) | fail)) [nth, f8_l0, hLL, hc, e3, q1, q2, e2, catV_of, l1, l2, limO_of]
  · refine ⟨R, d, hR, by omega, ?_⟩
    have hc : ¬ 1 < ((il R).length : Int) := by rw [il_len]; omega
    unfold S14
    generalize il R = X at *
    obtain ⟨L, hLL⟩ : ∃ L : Int, (X.length : Int) = L := ⟨_, rfl⟩
    rw [hLL] at hc
    simp (disch := (first | assumption | omega | (simp only [List.length_append, List.length_cons, List.length_nil, List.length_map, List.length_replicate] <;> omega) | fail)) [nth, f8_l0, hLL, hc]
/-- the row that is too long -/
theorem row2_ex (d : DSo) (H : VH) (x2 x7 x10 x11 x12 : Option PV) {n : Nat} (h : 1 ≤ n) (h2 : n ≤ 8) {f : Int} (v : Int) (f0 : 0 ≤ f) (R : List Int) (A B : List PV) (hR : ∀ x ∈ R, 0 ≤ x) (hl : R.length ≤ 20) : ∃ (R' : List Int) (d' : DSo), (∀ x ∈ R', 0 ≤ x) ∧ R'.length ≤ 20 ∧
    vex (vcallsN G 3 7) (nth 12 f8_l0) (S14 x2 x7 x10 x11 x12 n f v (il R) A B) ⟨d, H⟩ = .nx (S14 x2 x7 x10 x11 x12 n f v (il R') A B) ⟨d', H⟩ := by
  obtain ⟨t, d1, t0, t1, e1⟩ := draw_exO d (many := 4) (by decide)
  by_cases c : t = 0
  · obtain ⟨k, d2, k0, k1, e2⟩ := draw_exO d1 (many := 7) (by decide)
    have hk : inH k = true := inH_of (by omega) (by omega)
    have s1 := shl_1 h2
    obtain ⟨b1, b2⟩ := P2_b h h2
    obtain ⟨ys, d3, e3, hy, hq⟩ := lc_drawV (C := vcallsN G 3 7) (elt := .bin .Add (.int 128) (.call 3 (.cons (.var 1) (.cons (.int 128) .nil)))) (tg := .nm 13) (it := .rng1 (.call 3 (.cons (.var 1) (.cons (.int 7) .nil)))) (cond := .none) (own := [("_law_k", 13)])
      (s := S14 x2 x7 x10 x11 x12 n f v (il R) A B) (s1 := S14 x2 x7 x10 x11 x12 n f v (il R) A B) (w := ⟨d1, H⟩) (d1 := d2) (H := H) (items := rngV 0 1 k.toNat) (fun y => ∃ i : Int, 0 ≤ i ∧ y = .int i) (by unfold S14; generalize il R = R; generalize (n : Int) = ni; simp (disch := (first | assumption | omega | (simp only [List.length_append, List.length_cons, List.length_nil, List.length_map, List.length_replicate] <;> omega) | fail)) [e2, hk]) (fun y hy d => by
        obtain ⟨z, d', z0, z1, ez⟩ := draw_exO d (many := 128) (by decide)
        exact ⟨.int (128 + z), [none, some .drw, x2, some (.int n), some (.int f), some (.int v), some (.lst .ow (il R)), x7, some (.lst .ow A), some (.lst .ow B), x10, x11, x12, some y], d', by unfold S14; generalize il R = R; generalize (n : Int) = ni; simp (disch := (first | assumption | omega | (simp only [List.length_append, List.length_cons, List.length_nil, List.length_map, List.length_replicate] <;> omega) | fail)) [ez], rfl, 128 + z, by omega, rfl⟩) (by rw [rngV_len]; omega)
    obtain ⟨xs, rfl, hx⟩ := ints_ofP ys hq
    have e4 : vx (vcallsN G 3 7) f8_c3 (S14 x2 x7 x10 x11 x12 n f v (il R) A B) ⟨d1, H⟩ = .ok (.v (.lst .ow (il xs))) (S14 x2 x7 x10 x11 x12 n f v (il R) A B) ⟨d3, H⟩ := e3
    have lx : xs.length ≤ 7 := by rw [il_len, rngV_len] at hy; omega
    refine ⟨(f + P2 n - 1) :: xs, d3, fun x hm => ?_, by simp; omega, ?_⟩
    · rcases List.mem_cons.mp hm with rfl | hm
      · omega
      · exact hx x hm
    · rw [il_cons]
      have l2 := il_len xs
      unfold S14 at e4 ⊢
      clear e3 hq hy
      generalize il R = R at *
      generalize il xs = X at *
      generalize (n : Int) = ni at *
      generalize P2 n = p at *
      simp (disch := (first | assumption | omega | (simp only [List.length_append, List.length_cons, List.length_nil, List.length_map, List.length_replicate] <;> omega) | fail)) [nth, f8_l0, e1, c, s1, e4, catV_of, l2, limO_of]
  · refine ⟨R, d1, hR, by omega, ?_⟩
    unfold S14
    generalize il R = R
    generalize (n : Int) = ni
    simp (disch := (first | assumption | omega | (simp only [List.length_append, List.length_cons, List.length_nil, List.length_map, List.length_replicate] <;> omega) | fail)) [nth, f8_l0, e1, c]

end LK

namespace LK
open PySem PySem.Spec L2 MP
theorem turn_ok (d : DSo) (v : PV) (s : VSl) (hs : ∃ x2 x3 x4 x5 x6 x7 x8 x9 x10 x11 x12, s = [none, some .drw, x2, x3, x4, x5, x6, x7, x8, x9, x10, x11, x12, none]) : ∃ s' d', (∃ x2 x3 x4 x5 x6 x7 x8 x9 x10 x11 x12, s' = [none, some .drw, x2, x3, x4, x5, x6, x7, x8, x9, x10, x11, x12, none]) ∧
    forKV (.nm 2) (vexs (vcallsN G 3 7) f8_l0) v s ⟨d, ⟨[], 0, 0⟩⟩ = .nx s' ⟨d', ⟨[], 0, 0⟩⟩ := by
  obtain ⟨x2, x3, x4, x5, x6, x7, x8, x9, x10, x11, x12, rfl⟩ := hs
  obtain ⟨nx, d1, n0, n1, e1⟩ := draw_exO d (many := 8) (by decide)
  obtain ⟨n, hn⟩ : ∃ n : Nat, (n : Int) = 1 + nx := ⟨(1 + nx).toNat, by omega⟩
  have h1 : 1 ≤ n := by omega
  have h2 : n ≤ 8 := by omega
  obtain ⟨b1, b2⟩ := P2_b h1 h2
  have hQQ : 0 < 256 / P2 n ∧ 256 / P2 n ≤ 256 := by
    have : n = 1 ∨ n = 2 ∨ n = 3 ∨ n = 4 ∨ n = 5 ∨ n = 6 ∨ n = 7 ∨ n = 8 := by omega
    clear hn h1 h2 b1 b2
    rcases this with rfl | rfl | rfl | rfl | rfl | rfl | rfl | rfl <;> decide
  have hQ := hQQ.1
  obtain ⟨fx, d2, f0, f1, e2⟩ := draw_exO d1 (many := 256 / P2 n) hQ
  have hQ2 := hQQ.2
  clear hQQ
  have sr : shrI 256 (n : Int) = some (.int (256 / P2 n)) := by
    rw [shrI_of (by omega)]
    simp [P2]
  have sl : shlI fx (n : Int) = some (.int (fx * P2 n)) := by
    rw [shlI_of (by omega) (by omega) (by omega)]
    simp [P2]
  have hf0 : 0 ≤ fx * P2 n := Int.mul_nonneg f0 (by omega)
  have hfm : fx * P2 n % P2 n = 0 := Int.mul_emod_left _ _
  obtain ⟨vv, d3, v0, v1, e3⟩ := value_ex 5 d2 ⟨[], 0, 0⟩ h1 h2
  have ei := fun w => lint_eq 6 w h1 h2 v0 (by omega : vv < 34359738368) (fx * P2 n)
  have ew := fun w => write_int_eq 6 w h1 h2 v0 (by omega : vv < 34359738368) (fx * P2 n)
  generalize hR : WI n vv (fx * P2 n) = R at ei ew
  have lR : R.length ≤ 6 := by rw [← hR]; exact WI_len _ _ _
  have nR : ∀ x ∈ R, 0 ≤ x := by rw [← hR]; exact WI_nn h1 h2 v0 hf0
  have E : eqV (.lst .ow (il R)) (.lst .ow (il R)) = some true := by rw [eqV_lst (il_nice _) (il_nice _), decide_eq_true rfl]
  generalize hF : fx * P2 n = F at *
  have y06 : ∀ S, vexs (vcallsN G 3 7) (.cons (nth 0 f8_l0) (.cons (nth 1 f8_l0) (.cons (nth 2 f8_l0) (.cons (nth 3 f8_l0) (.cons (nth 4 f8_l0) (.cons (nth 5 f8_l0) S)))))) [none, some .drw, some v, x3, x4, x5, x6, x7, x8, x9, x10, x11, x12, none] ⟨d, ⟨[], 0, 0⟩⟩ =
      vexs (vcallsN G 3 7) S [none, some .drw, some v, some (.int n), some (.int F), some (.int vv), some (.lst .ow (il R)), some (.lst .ow (il R)), x8, x9, x10, x11, x12, none] ⟨d3, ⟨[], 0, 0⟩⟩ := fun S => by
    have hQ3 : 256 / P2 n ≤ 10000000000000000 := by omega
    clear hR lR nR hfm hf0 b1 b2 h1 h2
    generalize il R = X at *
    generalize 256 / P2 n = Q at *
    generalize P2 n = p at *
    generalize (n : Int) = ni at *
    simp (disch := (first | assumption | omega | (simp only [List.length_append, List.length_cons, List.length_nil, List.length_map, List.length_replicate] <;> omega) | fail)) [nth, f8_l0, e1, hn.symm, sr, e2, sl, hF, e3, ei, ew, E, hQ, hQ3]
  obtain ⟨A, d4, nA, lA, e4⟩ := oct_ex 6 d3 ⟨[], 0, 0⟩ [none, some .drw, some v, some (.int n), some (.int F), some (.int vv), some (.lst .ow (il R)), some (.lst .ow (il R)), x8, x9, x10, x11, x12, none] rfl rfl rfl
  obtain ⟨B, d5, nB, lB, e5⟩ := oct_ex 6 d4 ⟨[], 0, 0⟩ [none, some .drw, some v, some (.int n), some (.int F), some (.int vv), some (.lst .ow (il R)), some (.lst .ow (il R)), some (.lst .ow (il A)), x9, x10, x11, x12, none] rfl rfl rfl
  have y67 : ∀ S, vexs (vcallsN G 3 7) (.cons (nth 6 f8_l0) (.cons (nth 7 f8_l0) S)) [none, some .drw, some v, some (.int n), some (.int F), some (.int vv), some (.lst .ow (il R)), some (.lst .ow (il R)), x8, x9, x10, x11, x12, none] ⟨d3, ⟨[], 0, 0⟩⟩ =
      vexs (vcallsN G 3 7) S (S14 (some v) (some (.lst .ow (il R))) x10 x11 x12 n F vv (il R) (il A) (il B)) ⟨d5, ⟨[], 0, 0⟩⟩ := fun S => by
    have q4 : nth 6 f8_l0 = .asg (.nm 8) (.lc (.call 3 (.cons (.var 1) (.cons (.int 256) .nil))) (.nm 13) (.rng1 (.call 3 (.cons (.var 1) (.cons (.int 3) .nil)))) .none [("_law_k", 13)]) := rfl
    have q5 : nth 7 f8_l0 = .asg (.nm 9) (.lc (.call 3 (.cons (.var 1) (.cons (.int 256) .nil))) (.nm 13) (.rng1 (.call 3 (.cons (.var 1) (.cons (.int 3) .nil)))) .none [("_law_k", 13)]) := rfl
    rw [q_vexs_cons, q4, q_vex_asg, e4]
    unfold S14
    generalize il R = X at *
    generalize il A = Y at *
    generalize il B = Z at *
    rw [show ∀ s w, (VR.ok (RL.v (PV.lst Ow.ow Y)) s w).st (asgV (.nm 8)) = .nx (s.set 8 (some (.lst .ow Y))) w from fun s w => rfl, VO.then_nx, q_vexs_cons, q5, q_vex_asg]
    simp only [List.set_cons_succ, List.set_cons_zero]
    rw [e5]
    rfl
  have rd : ∀ w, vcallN G 3 7 1 [.tup (il (A ++ R ++ B)), .int A.length, .int n] w = .ok (.tup [.int vv, .int ((A.length + R.length : Nat) : Int)]) w := fun w => by
    have := read_int_eq 6 w (A ++ R ++ B) (by simp; omega) (fun x hx => by
      rcases List.mem_append.mp hx with hx | hx
      · rcases List.mem_append.mp hx with hx | hx
        · exact nA x hx
        · exact nR x hx
      · exact nB x hx) A.length (by omega) h1 h2
    rw [this, ← hR, RD_ok A B h1 h2 v0 v1 hfm]
    rfl
  obtain ⟨mo, d6, m0, m1, e6⟩ := draw_exO d5 (many := 4) (by decide)
  have y89 : ∀ S, vexs (vcallsN G 3 7) (.cons (nth 8 f8_l0) (.cons (nth 9 f8_l0) (.cons (nth 10 f8_l0) S))) (S14 (some v) (some (.lst .ow (il R))) x10 x11 x12 n F vv (il R) (il A) (il B)) ⟨d5, ⟨[], 0, 0⟩⟩ =
      vexs (vcallsN G 3 7) S (S14 (some v) (some (.lst .ow (il R))) (some (.tup (il (A ++ R ++ B)))) (some (.int mo)) x12 n F vv (il R) (il A) (il B)) ⟨d6, ⟨[], 0, 0⟩⟩ := fun S => by
    have c1 : catV (il A) (il R) = some (il A ++ il R) := catV_of (by rw [il_len, il_len]; omega)
    have c2 : catV (il A ++ il R) (il B) = some (il A ++ il R ++ il B) := catV_of (by rw [List.length_append, il_len, il_len, il_len]; omega)
    rw [il_app, il_app] at *
    have l1 : ((il A).length : Int) + ((il R).length : Int) = ((A.length + R.length : Nat) : Int) := by rw [il_len, il_len]; push_cast; rfl
    have l2 : ((il A).length : Int) = (A.length : Int) := by rw [il_len]
    have E2 : eqV (.tup [.int vv, .int ((A.length + R.length : Nat) : Int)]) (.tup [.int vv, .int ((A.length + R.length : Nat) : Int)]) = some true := by
      rw [eqV_tup (.cons (.int _) (.cons (.int _) .nil)) (.cons (.int _) (.cons (.int _) .nil)), decide_eq_true rfl]
    unfold S14
    clear E hR lR nR nA nB hfm hf0 b1 b2 h1 h2 e4 e5 y67 y06 ei ew hF lA lB
    generalize ((A.length + R.length : Nat) : Int) = L3 at *
    obtain ⟨L2, hL2⟩ : ∃ L : Int, (A.length : Int) = L := ⟨_, rfl⟩
    rw [hL2] at l2 rd
    rw [l2] at l1
    obtain ⟨L1, hL1⟩ : ∃ L : Int, ((il R).length : Int) = L := ⟨_, rfl⟩
    rw [hL1] at l1
    generalize il A = Y at *
    generalize il R = X at *
    generalize il B = Z at *
    generalize (n : Int) = ni at *
    generalize Y ++ X = YX at *
    generalize YX ++ Z = Q at *
    simp (disch := (first | assumption | omega | (simp only [List.length_append, List.length_cons, List.length_nil, List.length_map, List.length_replicate] <;> omega) | fail)) [nth, f8_l0, c1, c2, rd, hL1, l2, l1, E2, e6]
  obtain ⟨R1, d7, nR1, lR1, y11⟩ := row1_ex d6 ⟨[], 0, 0⟩ (some v) (some (.lst .ow (il R))) (some (.tup (il (A ++ R ++ B)))) x12 n F vv R (il A) (il B) nR lR m0 m1
  obtain ⟨R2, d8, nR2, lR2, y12⟩ := row2_ex d7 ⟨[], 0, 0⟩ (some v) (some (.lst .ow (il R))) (some (.tup (il (A ++ R ++ B)))) (some (.int mo)) x12 h1 h2 vv hf0 R1 (il A) (il B) nR1 lR1
  have y13 : vex (vcallsN G 3 7) (nth 13 f8_l0) (S14 (some v) (some (.lst .ow (il R))) (some (.tup (il (A ++ R ++ B)))) (some (.int mo)) x12 n F vv (il R2) (il A) (il B)) ⟨d8, ⟨[], 0, 0⟩⟩ = .nx (S14 (some v) (some (.lst .ow (il R))) (some (.tup (il (A ++ R2 ++ B)))) (some (.int mo)) x12 n F vv (il R2) (il A) (il B)) ⟨d8, ⟨[], 0, 0⟩⟩ := by
    have c1 : catV (il A) (il R2) = some (il A ++ il R2) := catV_of (by rw [il_len, il_len]; omega)
    have c2 : catV (il A ++ il R2) (il B) = some (il A ++ il R2 ++ il B) := catV_of (by rw [List.length_append, il_len, il_len, il_len]; omega)
    rw [il_app (A ++ R2) B, il_app A R2]
    unfold S14
    clear E hR lR nR nA nB hfm hf0 b1 b2 h1 h2 e4 e5 y67 y06 ei ew hF lA lB y89 y11 y12
    generalize il (A ++ R ++ B) = Q at *
    generalize il A = Y at *
    generalize il R2 = X at *
    generalize il R = X0 at *
    generalize il B = Z at *
    generalize (n : Int) = ni at *
    generalize Y ++ X = YX at *
    generalize YX ++ Z = Q2 at *
    simp (disch := (first | assumption | omega | (simp only [List.length_append, List.length_cons, List.length_nil, List.length_map, List.length_replicate] <;> omega) | fail)) [nth, f8_l0, c1, c2]
  obtain ⟨X, d9, nX, lX, y14⟩ : ∃ (X : List Int) (d9 : DSo), (∀ x ∈ X, 0 ≤ x) ∧ X.length ≤ 100 ∧ vex (vcallsN G 3 7) (nth 14 f8_l0) (S14 (some v) (some (.lst .ow (il R))) (some (.tup (il (A ++ R2 ++ B)))) (some (.int mo)) x12 n F vv (il R2) (il A) (il B)) ⟨d8, ⟨[], 0, 0⟩⟩ = .nx (S14 (some v) (some (.lst .ow (il R))) (some (.tup (il X))) (some (.int mo)) x12 n F vv (il R2) (il A) (il B)) ⟨d9, ⟨[], 0, 0⟩⟩ := by
    have nO : ∀ x ∈ A ++ R2 ++ B, 0 ≤ x := fun x hx => by
      rcases List.mem_append.mp hx with hx | hx
      · rcases List.mem_append.mp hx with hx | hx
        · exact nA x hx
        · exact nR2 x hx
      · exact nB x hx
    have lO : (A ++ R2 ++ B).length ≤ 100 := by simp; omega
    obtain ⟨t, d9, t0, t1, e7⟩ := draw_exO d8 (many := 4) (by decide)
    by_cases c : t = 0
    · have l1 : ((il R2).length : Int) = (R2.length : Int) := by rw [il_len]
      have l2 : ((il A).length : Int) = (A.length : Int) := by rw [il_len]
      obtain ⟨L1, hL1⟩ : ∃ L : Int, (R2.length : Int) = L := ⟨_, rfl⟩
      rw [hL1] at l1
      obtain ⟨u, d10, u0, u1, e8⟩ := draw_exO d9 (many := L1 + 1) (by omega)
      have p1 : 0 < L1 + 1 := by omega
      have p2 : L1 + 1 ≤ 10000000000000000 := by omega
      refine ⟨(A ++ R2 ++ B).take ((A.length : Int) + u).toNat, d10, fun x hx => nO x (List.mem_of_mem_take hx), by rw [List.length_take]; omega, ?_⟩
      have ct : cutL (il (A ++ R2 ++ B)) none (some ((A.length : Int) + u)) = il ((A ++ R2 ++ B).take ((A.length : Int) + u).toNat) := by
        rw [cutL_to (by omega)]
        simp [il, List.map_take]
      rw [← ct]
      unfold S14
      clear ct E hR lR nR nA nB hfm hf0 b1 b2 h1 h2 e4 e5 y67 y06 ei ew hF lA lB y89 y11 y12 y13 rd
      generalize (A.length : Int) = L2 at *
      generalize il (A ++ R2 ++ B) = Q at *
      generalize il A = Y at *
      generalize il R2 = X at *
      generalize il R = X0 at *
      generalize il B = Z at *
      generalize (n : Int) = ni at *
      simp (disch := (first | assumption | omega | (simp only [List.length_append, List.length_cons, List.length_nil, List.length_map, List.length_replicate] <;> omega) | fail)) [nth, f8_l0, e7, c, l1, l2, e8, p1, p2]
    · refine ⟨A ++ R2 ++ B, d9, nO, lO, ?_⟩
      unfold S14
      generalize il (A ++ R2 ++ B) = Q at *
      generalize il A = Y at *
      generalize il R2 = X at *
      generalize il R = X0 at *
      generalize il B = Z at *
      generalize (n : Int) = ni at *
      simp (disch := (first | assumption | omega | (simp only [List.length_append, List.length_cons, List.length_nil, List.length_map, List.length_replicate] <;> omega) | fail)) [nth, f8_l0, e7, c]
  have ld := fun w => lread_eq 6 w X (by omega) nX A.length (by omega) h1 h2
  have rr := fun w => read_int_eq 6 w X (by omega) nX A.length (by omega) h1 h2
  have y15 : vexs (vcallsN G 3 7) (.cons (nth 15 f8_l0) (.cons (nth 16 f8_l0) .nil)) (S14 (some v) (some (.lst .ow (il R))) (some (.tup (il X))) (some (.int mo)) x12 n F vv (il R2) (il A) (il B)) ⟨d9, ⟨[], 0, 0⟩⟩ =
      .nx (S14 (some v) (some (.lst .ow (il R))) (some (.tup (il X))) (some (.int mo)) (some (rdV (RD X A.length n))) n F vv (il R2) (il A) (il B)) ⟨d9, ⟨[], 0, 0⟩⟩ := by
    have l2 : ((il A).length : Int) = (A.length : Int) := by rw [il_len]
    have ff := fun w t a (e : RD X A.length n = .flt t a) => fault_eq 5 w X (by omega) nX A.length (by omega) h1 h2 e
    have wd := fun t a (e : RD X A.length n = .flt t a) => RD_word e
    unfold S14
    clear E hR lR nR nA nB hfm hf0 b1 b2 h1 h2 e4 e5 y67 y06 ei ew hF lA lB y89 y11 y12 y13 y14 rd
    obtain ⟨L2, hL2⟩ : ∃ L : Int, (A.length : Int) = L := ⟨_, rfl⟩
    rw [hL2] at *
    generalize il X = Q at *
    generalize il A = Y at *
    generalize il R2 = X at *
    generalize il R = X0 at *
    generalize il B = Z at *
    generalize hni : (n : Int) = ni at *
    cases hr : RD _ A.length n with
    | val u b =>
      rw [hr] at ld rr
      unfold rdVC at ld
      unfold rdC at rr
      unfold rdV
      dsimp only at *
      have E2 : eqV (.tup [.int u, .int (b : Int)]) (.tup [.int u, .int (b : Int)]) = some true := by
        rw [eqV_tup (.cons (.int _) (.cons (.int _) .nil)) (.cons (.int _) (.cons (.int _) .nil)), decide_eq_true rfl]
      clear ff wd hr
      generalize (b : Int) = bi at *
      simp (disch := (first | assumption | omega | (simp only [List.length_append, List.length_cons, List.length_nil, List.length_map, List.length_replicate] <;> omega) | fail)) [nth, f8_l0, ld, rr, l2, E2]
    | flt t a =>
      have ff1 := fun w => ff w t a hr
      have wd1 := wd t a hr
      rw [hr] at ld rr
      unfold rdVC at ld
      unfold rdV
      dsimp only at *
      have E2 : eqV (.tup [.str t, .int (a : Int)]) (.tup [.str t, .int (a : Int)]) = some true := by
        rw [eqV_tup (.cons (.str (by rcases wd1 with rfl | rfl <;> decide)) (.cons (.int _) .nil)) (.cons (.str (by rcases wd1 with rfl | rfl <;> decide)) (.cons (.int _) .nil)), decide_eq_true rfl]
      clear ff wd hr rr
      generalize (a : Int) = ai at *
      simp (disch := (first | assumption | omega | (simp only [List.length_append, List.length_cons, List.length_nil, List.length_map, List.length_replicate] <;> omega) | fail)) [nth, f8_l0, ld, ff1, l2, E2]
  have hb : f8_l0 = .cons (nth 0 f8_l0) (.cons (nth 1 f8_l0) (.cons (nth 2 f8_l0) (.cons (nth 3 f8_l0) (.cons (nth 4 f8_l0) (.cons (nth 5 f8_l0) (.cons (nth 6 f8_l0) (.cons (nth 7 f8_l0) (.cons (nth 8 f8_l0) (.cons (nth 9 f8_l0) (.cons (nth 10 f8_l0) (.cons (nth 11 f8_l0) (.cons (nth 12 f8_l0) (.cons (nth 13 f8_l0) (.cons (nth 14 f8_l0) (.cons (nth 15 f8_l0) (.cons (nth 16 f8_l0) .nil)))))))))))))))) := rfl
  refine ⟨S14 (some v) (some (.lst .ow (il R))) (some (.tup (il X))) (some (.int mo)) (some (rdV (RD X A.length n))) n F vv (il R2) (il A) (il B), d9, ⟨_, _, _, _, _, _, _, _, _, _, _, rfl⟩, ?_⟩
  unfold forKV setTV
  dsimp only [List.set]
  rw [hb, y06, y67, y89, q_vexs_cons, y11, VO.then_nx, q_vexs_cons, y12, VO.then_nx, q_vexs_cons, y13, VO.then_nx, q_vexs_cons, y14, VO.then_nx, y15]
theorem lawN (ns : List Int) (hn : ns.length ≤ 63) : ∃ w', endV (vexs (vcallsN G 3 7) lawR ((List.replicate 14 none).set 1 (some .drw)) ⟨drawO ns, ⟨[], 0, 0⟩⟩) = .ok (.bl true) w' := by
  generalize drawO ns = d0
  obtain ⟨s', w', e, ⟨hs, d1, rfl⟩⟩ := vfor_inv (step := forKV (.nm 2) (vexs (vcallsN G 3 7) f8_l0)) (fun s' w' => (∃ x2 x3 x4 x5 x6 x7 x8 x9 x10 x11 x12, s' = [none, some .drw, x2, x3, x4, x5, x6, x7, x8, x9, x10, x11, x12, none]) ∧ ∃ d1 : DSo, w' = ⟨d1, ⟨[], 0, 0⟩⟩) (vs := rngV 0 1 4) (s := (List.replicate 14 none).set 1 (some .drw)) (w := ⟨d0, ⟨[], 0, 0⟩⟩)
    ⟨⟨none, none, none, none, none, none, none, none, none, none, none, rfl⟩, d0, rfl⟩ (fun v hv s w hs => by
      obtain ⟨hs, d1, rfl⟩ := hs
      obtain ⟨s', d', hs', e⟩ := turn_ok d1 v s hs
      rw [e]
      exact ⟨hs', _, rfl⟩)
  have h4 : inH 4 = true := inH_of (by decide) (by decide)
  refine ⟨⟨d1, ⟨[], 0, 0⟩⟩, ?_⟩
  generalize (List.replicate 14 none).set 1 (some PV.drw) = s0 at *
  simp (disch := (first | assumption | omega | (simp only [List.length_append, List.length_cons, List.length_nil, List.length_map, List.length_replicate] <;> omega) | fail)) [lawR, h4, e]
end LK
theorem PySem.Challenge.cw_ownanswer_k20_integers_in_octets_holds : PySem.Challenge.rw_ownanswer_k20_integers_in_octets.Holds := by
  exact LK.finishV 6 ⟨rfl, by decide, by decide⟩ fun ns hn => LK.lawN ns hn
--end
