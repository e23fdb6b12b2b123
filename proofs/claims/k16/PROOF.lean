import PyProof.Rows.All
import Wide.All
import OpenK.AllK
import Wide.FinOn
import HandS.Rev
import PyProof.ListNew
import HandS.SortInts
import HandS.ForMost
import HandS.Wide
import HandS.StrMore
import KE.KEqDict
import PyProof.P3Eq
import HandS.TupAny
import HandS.Deep
import HandS.IsInst
import HandS.More
import HandS.Style
import PyProof.Rows.InDataRows
import HandS.Zip
import HandS.CallRecv
import HandS.Small
import HandS.WideMore
import HandS.Codes
import HandS.Defaults
import HandS.HeadHook1
import KE.KStateDown
import HandS.Head0
import HandS.Head1
import HandS.Head2
import HandS.HeadEnd
import HandS.HeadHook2
import HandS.HeadHook4
import PySem.Challenge.RW_seekhall_k16_tables
set_option Elab.async false
set_option linter.all false
set_option maxRecDepth 100000
set_option maxHeartbeats 0
/-! SkR: list(reversed(a list)). -/
namespace Sk
open PySem PySem.Spec PyProof.Rows L2 RT

section
variable {prog : Program} {w : World} {A : Around} {s : Shared} {R : Result → Shared → Prop} {E : Value → Shared → Prop}
variable {I : Addr} {fp wr : List Addr} {G : Array GenState → Array GenState → Prop} {n : Nat} {P : Nat → Value → Prop} {St : Nat → Shared → Prop}
theorem extend_rev (W : WalksS prog w A.in1 I fp wr G n P St) (hT : ∀ i s, St i s → s.TypeIs (.ref I) "list_reverseiterator") (S : Addr) (res : Value) (c₀ : Nat) (hst : St 0 s) (hSf : S ∉ fp) (hI : I ∈ fp)
    (hS : s.heap.get? S = some { cls := .type "list", data := .seq #[] c₀ })
    (hR : ∀ s' acc' c', Moved (S :: wr) G s s' → s'.heap.get? S = some { cls := .type "list", dict := none, data := .seq acc' c', slots := #[] } → ItemsOf P acc' n → R (.ok (.ret res)) s') (hn : n ≤ sizeLine) :
    wpAny (model prog w) A.in1 (Builtin.List.listExtendWith (.ref S) (.ref I) res)
      (fun fin s' => match fin with | .done f => R (.ok f) s' | .again c' => c'.quiet = true ∧ codeAny (model prog w) A c' R s') (fun e s' => R (.error e) s') s := by
  have hSI : S ≠ I := fun e => hSf (e ▸ hI)
  unfold Builtin.List.listExtendWith
  refine wpAny_bind (wpAny_typeOf (hT 0 _ hst) ?_)
  have h1 : Builtin.List.listSameRef (.ref S) (.ref I) = false := by simp [Builtin.List.listSameRef, hSI]
  rw [if_neg (by rw [h1]; decide)]
  refine wpAny_bind (W.self 0 _ _ _ hst ?_)
  refine wpAny_bind (wpAny_holding ?_)
  unfold Builtin.List.listLengthHint
  refine wpAny_bind (wpAny_specialOf (hT 0 _ hst) nolen_lri ?_)
  show wpAny _ A.in1 (specialOf (Value.ref I) (Str.ofString "__length_hint__") >>= _) _ _ _
  refine wpAny_bind (wpAny_specialOf (hT 0 _ hst) hint_lri ?_)
  generalize hid : ("list_reverseiterator.__length_hint__" : String) = id0
  wp_delta
  rw [show splitId id0 = some ("list_reverseiterator", "__length_hint__") from by subst hid; decide +kernel]
  subst hid
  refine wpAny_bind (wpAny_isInstance (b := true) (hT 0 _ hst) (by rw [isSubtype_type]; kernel_rfl) ?_)
  refine wpAny_pure ?_
  rw [if_neg (by decide)]
  exact wpAny_pure ⟨plainId_quiet F.plain_extend_loop _, codeAny_extend_loopS W hn _ hSf _ n 0 _ _ _ rfl (Nat.zero_le _) hst hS (ItemsOf.nil P) fun s' acc' c' hm hS' hacc => hR s' acc' c' hm hS' hacc⟩
theorem init_rev (W : WalksS prog w A.in1 I fp wr G n P St) (hT : ∀ i s, St i s → s.TypeIs (.ref I) "list_reverseiterator") (S : Addr) (hst : St 0 s) (hSf : S ∉ fp) (hI : I ∈ fp)
    (hS : s.heap.get? S = some { cls := .type "list", data := .seq #[] })
    (hR : ∀ s' acc' c', Moved (S :: wr) G s s' → s'.heap.get? S = some { cls := .type "list", dict := none, data := .seq acc' c', slots := #[] } → ItemsOf P acc' n → R (.ok (.ret .none)) s') (hn : n ≤ sizeLine) :
    wpAny (model prog w) A.in1 (Builtin.«list.__init__» ⟨[.ref S, .ref I], []⟩)
      (fun fin s' => match fin with | .done f => R (.ok f) s' | .again c' => c'.quiet = true ∧ codeAny (model prog w) A c' R s') (fun e s' => R (.error e) s') s := by
  show wpAny _ A.in1 (do let old ← Builtin.List.listItems (.ref S); Builtin.List.listUpdate (.ref S) (fun _ => #[]); letGo old.toList.reverse; Builtin.List.listExtendWith (.ref S) (.ref I) .none) _ _ s
  refine wpAny_bind ?_
  unfold Builtin.List.listItems
  refine wpAny_bind (wpAny_seqItems hS rfl (wpAny_pure ?_))
  show wpAny _ A.in1 (updateSeq S (fun _ => #[]) >>= fun _ => letGo (#[] : Array Value).toList.reverse >>= fun _ => Builtin.List.listExtendWith (.ref S) (.ref I) .none) _ _ s
  refine wpAny_bind (wpAny_updateSeq hS rfl ?_)
  have hS₂ := Heap.get?_update_self (Obj.mapSeq (fun _ => (#[] : Array Value))) hS rfl
  have oth : ∀ b o, b ≠ S → s.heap.get? b = some o → (s.heap.update S (Obj.mapSeq (fun _ => (#[] : Array Value)))).get? b = some o :=
    fun b o hb e => (Heap.get?_update_other _ _ (Ne.symm hb)).trans e
  refine wpAny_bind (wpAny_letGo ?_)
  refine extend_rev (hn := hn) W hT S .none _ (W.frame 0 s _ s.toks hst (Nat.le_refl _) fun b hb o e => oth b o (fun h => hSf (h ▸ hb)) e) hSf hI hS₂ fun s' acc' c' hm hS' hacc => ?_
  exact hR s' acc' c' (Moved.trans W.gtrans ((Moved.refl W.grefl).then_heap (Nat.le_refl _) fun b o hb e => oth b o (fun h => hb (h ▸ List.mem_cons_self)) e) hm) hS' hacc
theorem call_list_rev {Q : Value → Shared → Prop} (W : WalksS prog w A.in1.in1 I fp wr G n P St) (hT : ∀ i s, St i s → s.TypeIs (.ref I) "list_reverseiterator") (hst : St 0 s) (hfp : ∀ b ∈ fp, b < s.heap.objs.size) (hI : I ∈ fp)
    (hQ : ∀ s' acc' c', Moved (s.heap.objs.size :: wr) G { s with heap := s.heap.push { cls := .type "list", data := .seq #[] } } s' →
      s'.heap.get? s.heap.objs.size = some { cls := .type "list", dict := none, data := .seq acc' c', slots := #[] } → ItemsOf P acc' n → Q (.ref s.heap.objs.size) s') (hn : n ≤ sizeLine) :
    wpAny (model prog w) A (call (.type "list") [.ref I]) Q E s := by
  have hSf : s.heap.objs.size ∉ fp := fun hm => Nat.lt_irrefl _ (hfp _ hm)
  refine callType_codes (Q₁ := fun obj s₁ => obj = .ref s.heap.objs.size ∧ s₁ = { s with heap := s.heap.push { cls := .type "list", data := .seq #[] } }) F.called_list (F.typeCall_list_1 _) F.entry_list_init
    (code_list_new _ ⟨rfl, rfl⟩) fun obj s₁ h₁ => ?_
  obtain ⟨rfl, rfl⟩ := h₁
  have hS : (s.heap.push { cls := .type "list", data := .seq #[] }).get? s.heap.objs.size = some { cls := .type "list", data := .seq #[] } := Heap.get?_push_size _ rfl
  refine ⟨⟨_, hS, rfl⟩, F.args_list_init_2 _ _, init_rev (hn := hn) W hT _ (W.frame 0 s _ s.toks hst (Nat.le_refl _) fun b _ o e => Heap.get?_push_of_some _ e) hSf hI hS fun s' acc' c' hm hS' hacc => ?_⟩
  exact ⟨rfl, hQ s' acc' c' hm hS' hacc⟩
end
/-- list(reversed(x)), x a list: a new list -/
def tLstRev (K : PySem.W.Frag) (te : TE) : TE := fun σ H Q => te σ H fun v H1 => ∃ (a : Addr) (xs : List V), v = .ref a ∧ SqL K H1 a xs ∧ ∀ q, H1 q = none → Q (.ref q) (upd H1 q (.lst xs.reverse))
theorem pe_lstRev {X : Cx} {e : Expr} {te : TE} {p p2 pos pos2 : Pos} (hc : X.calm = true) (hg : Gl X "list") (hm : X.mg "list" = none) (hg2 : Gl X "reversed") (hm2 : X.mg "reversed" = none) (he : PE X e te)
    (hs : starEach [e] X.env = (false, eval e X.env) :: starEach [] X.env)
    (hs2 : starEach [.Call (.Name "reversed" p2) [e] [] pos2] X.env = (false, eval (.Call (.Name "reversed" p2) [e] [] pos2) X.env) :: starEach [] X.env := by rfl) :
    PE X (.Call (.Name "list" p) [.Call (.Name "reversed" p2) [e] [] pos2] [] pos) (tLstRev X.K te) := by
  refine ⟨fun pins s σ H Q I h => ?_⟩
  refine Call_ (ld_blt I hg hm boot_list (PyProof.Rows.callWith_type1 (args_cons (Call_ (ld_blt I hg2 hm2 PyProof.Rows.boot_reversed (PyProof.Rows.callWith_type1 (args_cons (thn (he.run pins s σ H _ I h) fun u s1 ⟨v, H1, I1, r1, q1⟩ => args_nil ?_) hs) hs rfl))) hs2) hs2 rfl))
  obtain ⟨a, xs, ev, hq, q⟩ := q1
  subst ev
  obtain rfl : u = Value.ref a := r1
  obtain ⟨its, rv, p', hz⟩ := I1.list hq
  refine call_reversed_list p'.isList (args_nil ?_)
  have k0 : ∀ b o, s1.heap.get? b = some o → (s1.heap.push (revObj a ((its.toArray.size : Int) - 1))).get? b = some o := fun b o e => Heap.get?_push_of_some _ e
  have I2 : Inv X pins σ H1 { s1 with heap := s1.heap.push (revObj a ((its.toArray.size : Int) - 1)) } := I1.kept (t' := s1.toks) k0
  have hl := p'.isList
  obtain ⟨ol, hol, _⟩ := id hl
  have hne : a ≠ s1.heap.objs.size := Nat.ne_of_lt (Heap.lt_size hol)
  have hn : its.toArray.size ≤ sizeLine := by rw [List.size_toArray, ← rv.length]; exact hz
  generalize hs2' : ({ s1 with heap := s1.heap.push (revObj a ((its.toArray.size : Int) - 1)) } : Shared) = s2 at I2
  have h2 : s2.heap = s1.heap.push (revObj a ((its.toArray.size : Int) - 1)) := by rw [← hs2']
  have W := (Walks.listRev (prog := X.prog) (w := X.w) (A := X.A.in1.in1) (I1.ok.hd hc) s1.heap.objs.size a hne its.toArray).toS
  have e0 : ((its.toArray.size : Nat) : Int) - 1 - ((0 : Nat) : Int) = (its.toArray.size : Int) - 1 := by omega
  have hit : s2.heap.IsRevIter s1.heap.objs.size a ((its.toArray.size : Int) - 1) := by rw [h2]; exact ⟨_, Heap.get?_push_size _ rfl, rfl, rfl⟩
  have sz2 : s2.heap.objs.size = s1.heap.objs.size + 1 := by rw [h2, Heap.size_push]
  refine call_list_rev (s := s2) W (fun i s' x => x.2.1.typeIs) ⟨Nat.zero_le _, by rw [e0]; exact hit, by rw [h2]; exact hl.push _⟩ (fun b hb => ?_) (by simp) (fun s' acc' c' hm hS' hacc => ?_) hn
  · rw [sz2]
    simp only [List.mem_cons, List.not_mem_nil, or_false] at hb
    rcases hb with rfl | rfl
    · exact Nat.lt_succ_self _
    · exact Nat.lt_succ_of_lt (Heap.lt_size hol)
  · have hv : Vals xs.reverse acc'.toList := vals_rev rv hacc
    have hfr : H1 s2.heap.objs.size = none := I2.hok.fresh (Nat.le_refl _)
    have neS : s1.heap.objs.size ≠ s2.heap.objs.size := by rw [sz2]; omega
    -- the list as it will be, the iterator as it is
    have I3 : Inv X pins σ (upd H1 s2.heap.objs.size (.lst xs.reverse)) { s2 with heap := s2.heap.push { cls := .type "list", data := .seq acc' c' } } := by
      refine I2.laid (t' := s2.toks) (fun b o e => Heap.get?_push_of_some _ e) (Nat.le_refl _) ⟨by rw [List.length_reverse]; exact hz, acc'.toList, c', hv, ?_⟩
      rw [Array.toArray_toList]
      exact Heap.get?_push_size _ rfl
    obtain ⟨f0, f1, f2, f3, f4, f5⟩ := I1.fpOk (H' := upd H1 s2.heap.objs.size (.lst xs.reverse)) (b := s1.heap.objs.size) (Nat.le_refl _) (by rw [upd_ne neS]; exact I1.hok.fresh (Nat.le_refl _))
    have es := Moved.eq_with hm
    have I4 : Inv X pins σ (upd H1 s2.heap.objs.size (.lst xs.reverse)) s' := by
      rw [es]
      refine I3.turned (t' := s'.toks) (fun b o hb e => ?_) f0 f1 f3 f4 f5
      by_cases q : b = s2.heap.objs.size
      · subst q
        have e' := Heap.get?_push_size s2.heap (o := ({ cls := .type "list", data := .seq acc' c' } : Obj)) rfl
        rw [e] at e'
        cases e'
        exact hS'
      · refine hm.heap b o (fun hmem => ?_) ?_
        · rcases List.mem_cons.mp hmem with z | z
          · exact q z
          · exact hb (List.mem_singleton.mp z)
        · have lt : b < s2.heap.objs.size := by
            have := Heap.lt_size e
            rw [Heap.size_push] at this
            exact Nat.lt_of_le_of_ne (Nat.le_of_lt_succ this) q
          have eb : s2.heap.get? b = some o := by
            obtain ⟨e1, e2⟩ := Heap.get?_some_iff.mp e
            refine Heap.get?_some_iff.mpr ⟨?_, e2⟩
            have e3 : (s2.heap.objs.push { cls := .type "list", data := .seq acc' c' })[b]? = some o := e1
            rw [Array.getElem?_push_lt lt] at e3
            rw [Array.getElem?_eq_getElem lt]
            exact e3
          exact Heap.get?_push_of_some _ eb
    exact ⟨.ref s2.heap.objs.size, _, I4, rfl, q _ hfr⟩

/-! ### len(set(x)), x a list of ints -/
theorem firstMet_all (ns : List Int) : PyProof.Rows.firstMet (fun i => ns.getD i 0) ns.length = ns.foldl PyProof.Rows.step_dedup [] := by
  unfold PyProof.Rows.firstMet
  congr 1
  refine List.ext_getElem (by simp) fun i h1 h2 => ?_
  simp only [List.getElem_map, List.getElem_range]
  rw [List.getD_eq_getElem?_getD, List.getElem?_eq_getElem h2]
  rfl
theorem intsAre_vals : ∀ {ns : List Int} {us : List Value}, Vals (ns.map V.int) us → PyProof.Rows.IntsAre us ns
  | [], _, .nil => .nil
  | n :: ns, _, .cons r t => by
    obtain ⟨k, rfl⟩ := r
    exact .cons n k (intsAre_vals t)
def tLenSetI (K : PySem.W.Frag) (ta : TE) : TE := fun σ H Q => ta σ H fun x H1 => ∃ (l : Addr) (ns : List Int), x = .ref l ∧ SqL K H1 l (ns.map V.int) ∧ ns.length ≤ 4000 ∧ Q (.int ((ns.foldl PyProof.Rows.step_dedup []).length : Nat)) H1
theorem pe_lenSetI {X : Cx} {a : Expr} {ta : TE} {p p2 q pos : Pos} (hc : X.calm = true) (hg : Gl X "len") (hm : X.mg "len" = none) (hg2 : Gl X "set") (hm2 : X.mg "set" = none) (ha : PE X a ta)
    (na : starEach [a] X.env = (false, eval a X.env) :: starEach [] X.env) : PE X (.Call (.Name "len" p) [.Call (.Name "set" p2) [a] [] q] [] pos) (tLenSetI X.K ta) := by
  refine ⟨fun pins s σ H Q I h => ?_⟩
  refine Call_ (ld_blt I hg hm boot_len ?_)
  refine PyProof.Rows.callWith_builtin1 (PyProof.Rows.args_cons ?_ rfl) rfl rfl
  refine Call_ (ld_blt I hg2 hm2 boot_set ?_)
  refine PyProof.Rows.callWith_type1 (PyProof.Rows.args_cons (thn (ha.run pins s σ H _ I h) fun v s1 ⟨x, H1, I1, r1, q1⟩ => PyProof.Rows.args_nil ?_) na) na rfl
  obtain ⟨l, ns, rfl, hq, hl, q1⟩ := q1
  cases r1
  obtain ⟨its, r, pl, hz⟩ := I1.list hq
  have hlen : its.toArray.size = ns.length := by rw [List.size_toArray, ← r.length, List.length_map]
  refine call_set_list (I1.ok.hd hc) pl.isList (by simpa using intsAre_vals r) (by rw [hlen]; unfold scanBound; omega) fun h' tk hS hk => ?_
  refine PyProof.Rows.args_nil ?_
  have hle := PyProof.Rows.firstMet_length_le (fun i => ns.getD i 0) ns.length
  rw [hlen, firstMet_all ns] at hS
  rw [firstMet_all ns] at hle
  obtain ⟨o, es, ep, t, ho, hex, hd, _, _, _, hf, hn⟩ := hS
  have I2 : Inv X pins σ H1 { s1 with heap := h', toks := tk } := I1.kept fun b o e => hk b o (Heap.lt_size e) e
  exact call_len_set ho hex hd hf (by rw [hn] <;> omega) ⟨.int _, H1, I2.tok _, ⟨_, by rw [hn]⟩, q1⟩

/-! ### sorted(x), x a tuple of ints -/
section
open PySem.Sem (wp)
variable {prog : Program} {w : World} {A : Around} {E : Value → Shared → Prop} {s : Shared}
theorem collect_tup {l : Addr} {o : Obj} {n : Nat} {vs : List Value} {Q : List Value → Shared → Prop} (ho : s.heap.get? l = some o) (hc : o.cls = .type "tuple") (hd : o.data = .seq vs.toArray n)
    (h : Q vs { s with heap := (s.heap.push (seqObj "list" #[] 0)).update s.heap.objs.size (Obj.mapSeq (· ++ vs.toArray)) }) (hsz : vs.length ≤ sizeLine) :
    wpAny (model prog w) A (collect (.ref l)) Q E s := by
  unfold collect
  refine wpAny_bind (wpAny_runValue (codeAny_builtin entry_proto_collect' ?_))
  show wpAny _ _ (do again (.builtin "list.__iadd__" ⟨[← newList [], .ref l], []⟩)) _ _ s
  refine wpAny_bind (wpAny_newList (wpAny_pure ⟨Code.quiet_builtin _ (by decide +kernel), codeAny_builtin entry_list_iadd' ?_⟩))
  show wpAny _ _ (Builtin.List.listExtendWith (.ref s.heap.objs.size) (.ref l) (.ref s.heap.objs.size)) _ _ { s with heap := s.heap.push (seqObj "list" #[] 0) }
  unfold Builtin.List.listExtendWith
  have ho' : (s.heap.push (seqObj "list" #[] 0)).get? l = some o := Heap.get?_push_of_some _ ho
  refine wpAny_bind (wpAny_typeOf (T := "tuple") ⟨o, ho', hc⟩ ?_)
  have ht : (Value.type "tuple" == Value.type "tuple") = true := by rfl
  rw [if_pos (by rw [ht]; simp)]
  refine wpAny_bind (listItems_at ho' hd ?_)
  refine wpAny_bind (listItems_at (xs := #[]) (n := 0) (Heap.get?_push_size _ rfl) rfl ?_)
  rw [if_neg (by simp)]
  refine wpAny_bind (listUpdate_at (xs := #[]) (n := 0) (Heap.get?_push_size _ rfl) rfl ?_ (Nat.zero_le _) (by show (#[] ++ vs.toArray).size ≤ sizeLine + 1; simp only [Array.size_append, List.size_toArray, List.length_nil]; omega))
  refine wpAny_pure ?_
  show wpAny (model prog w) A (do
      let o ← load s.heap.objs.size
      match o.data with
      | .seq xs _ => pure xs.toList
      | _ => unsupported "internal:collect") Q E { s with heap := (s.heap.push (seqObj "list" #[] 0)).update s.heap.objs.size (Obj.mapSeq (· ++ vs.toArray)) }
  refine wpAny_bind (wpAny_load (get?_update_seq (Heap.get?_push_size _ rfl) _) ?_)
  show wpAny _ _ (pure ((#[] : Array Value) ++ vs.toArray).toList) Q E _
  rw [show ((#[] : Array Value) ++ vs.toArray).toList = vs by simp]
  exact wpAny_pure h
theorem sorted_ordT {l : Addr} {o : Obj} {n : Nat} {vs : List Value} {ltv : Value → Value → Bool} {Q : Value → Shared → Prop} (O : SrtO.Swo ltv) (ho : s.heap.get? l = some o) (hc : o.cls = .type "tuple") (hd : o.data = .seq vs.toArray n) (hz : vs.length ≤ sizeLine)
    (hS : 2 ≤ vs.length → ∀ (h₁ : Heap) (a : Addr), h₁.get? a = some (seqObj "list" vs.toArray 0) → (∀ b o, s.heap.get? b = some o → b ≠ a ∧ h₁.get? b = some o) → SrtO.SortableO prog w A.in1.in1 { s with heap := h₁ } a vs ltv)
    (h : ∀ out : List Value, SrtO.Srtd ltv out → SrtO.Stb ltv out vs → Q (.ref (s.heap.objs.size + 1)) { s with heap := sortedAll s.heap vs out.toArray }) :
    wpAny (model prog w) A (call (.builtin "sorted") [.ref l]) Q E s := by
  refine Calls.call_function_entry kind_sorted plain_sorted entry_sorted (args_sorted1 _) ?_
  unfold Builtin.«sorted»
  refine wpAny_bind (m := checkCount "sorted" 1 1 _) (wpAny_pure ?_)
  refine wpAny_bind (collect_tup ho hc hd ?_ hz)
  refine wpAny_bind (wpAny_newList ?_ hz)
  have hsz : ((s.heap.push (seqObj "list" #[] 0)).update s.heap.objs.size (Obj.mapSeq (· ++ vs.toArray))).objs.size = s.heap.objs.size + 1 := by
    rw [Heap.size_update, size_push']
  have hoL : (((s.heap.push (seqObj "list" #[] 0)).update s.heap.objs.size (Obj.mapSeq (· ++ vs.toArray))).push (seqObj "list" vs.toArray 0)).get? (s.heap.objs.size + 1) = some (seqObj "list" vs.toArray 0) := by
    rw [← hsz]; exact Heap.get?_push_size _ rfl
  have keep : ∀ b o, s.heap.get? b = some o → b ≠ s.heap.objs.size + 1 ∧ (((s.heap.push (seqObj "list" #[] 0)).update s.heap.objs.size (Obj.mapSeq (· ++ vs.toArray))).push (seqObj "list" vs.toArray 0)).get? b = some o := fun b o q => by
    have hlt : b < s.heap.objs.size := Heap.lt_size q
    refine ⟨Nat.ne_of_lt (Nat.lt_succ_of_lt hlt), Heap.get?_push_of_some _ ?_⟩
    rw [Heap.get?_update_ne _ _ _ _ (Nat.ne_of_lt hlt)]
    exact Heap.get?_push_of_some _ q
  show wpAny _ _ _ _ _ { s with heap := ((s.heap.push (seqObj "list" #[] 0)).update s.heap.objs.size (Obj.mapSeq (· ++ vs.toArray))).push (seqObj "list" vs.toArray 0) }
  rw [hsz]
  refine wpAny_bind (wpAny_holding (wpAny_call_entry slot_list_sort ⟨_, hoL, rfl⟩ entry_list_sort (SrtO.list_sort_ord O hoL hz (fun h2 => hS h2 _ _ hoL keep) fun out hs hb => ⟨_, rfl, ?_⟩) (args_list_sort _)))
  exact wpAny_pure ⟨_, rfl, h out hs hb⟩
end
def rSortedIT (K : PySem.W.Frag) : List V → Hp → VK → Prop := fun vs H Q => ∃ (a : Addr) (ns : List Int), vs = [V.ref a] ∧ SqT K H a (ns.map V.int) ∧
  ∀ (ns' : List Int) (p : Addr), ns'.Perm ns → ns'.Pairwise (· ≤ ·) → H p = none → Q (.ref p) (upd H p (.lst (ns'.map V.int)))
theorem cr_sortedIT {X : Cx} : CallR X (.builtin "sorted") (rSortedIT X.K) := by
  intro pins s σ H vs us Q I r h
  obtain ⟨a, ns, rfl, hs, q⟩ := h
  obtain ⟨its, rv, hT, hz⟩ := I.tuple hs
  rw [Vals.ref1 r]
  have hi := rv.ints
  obtain ⟨o, ho, hc, n, hd⟩ := id hT
  refine sorted_ordT SrtO.swo_int ho hc hd (by rw [← rv.length]; exact hz) (fun h2 h₁ a' _ _ => SrtO.ints_sortable hi h2) fun out h1 h2 => ?_
  obtain ⟨k1, k2, k3⟩ := SrtO.ints_out hi h1 h2
  obtain ⟨ep, he'⟩ := PyProof.Rows.sortedAll_at s.heap its out.toArray
  have hlen : ((out.map SrtO.iv).map V.int).length ≤ sizeLine := by
    rw [List.length_map, k2.length_eq]
    rw [List.length_map] at hz
    exact hz
  exact ⟨.ref _, upd H (s.heap.objs.size + 1) (.lst ((out.map SrtO.iv).map V.int)), I.laid (t' := s.toks) (fun _ _ => PyProof.Rows.sortedAll_old) (Nat.le_succ _) ⟨hlen, out, ep, vals_of_ints k1, he'⟩, rfl, q _ _ k2 k3 (I.hok.fresh (Nat.le_succ _))⟩
end Sk

/-! Sk1: a small language of data: what its expressions and statements are worth. -/
namespace Sk
open PySem PySem.Spec PyProof.Rows L2

/-- data: frozen values; ref n: the n-th object of the store; fn f: a def of the text -/
inductive D where
  | non | bl (b : Bool) | int (i : Int) | str (s : Str)
  | tup (ds : List D) | lst (ds : List D) | dct (kvs : List (D × D))
  | ref (n : Nat) | fn (f : Str)
/-- an object of the store -/
inductive O where
  | da (d : D)
  | ins (c : Str) (fs : List (Str × D))
/-- a name's place: nothing, a frozen value, a list or dict of one's own -/
inductive Sl where
  | no | va (d : D) | ow (d : D)
/-- an operand: a frozen value, a fresh one, a place -/
inductive Op where
  | fz (d : D) | fr (d : D) | sl (i : Nat)

abbrev Env' := List Sl
abbrev Sto := List O

inductive BO where
  | add | sub | mul | fdiv | mod | pow
  deriving DecidableEq
inductive CO where
  | eq | ne | lt | le | gt | ge | is | isn | inn | nin
  deriving DecidableEq
/-- built-in functions by name -/
inductive BF where
  | len | list | tuple | dict | sum | min | max | any | all | sorted | int | abs | str | lenset | sortset | isa (t : String)
  | min2 | max2
  deriving DecidableEq
/-- built-in methods -/
inductive MF where
  | append | pop | popAt | insert | extend | get2 | join | index | clear
  deriving DecidableEq
/-- targets -/
inductive Tg where
  | one (i : Nat) | many (is : List Nat)
  deriving DecidableEq

mutual
inductive CE where
  | var (i : Nat) | rd (i : Nat) | mv (i : Nat)
  | non | bl (b : Bool) | int (i : Int) | str (s : Str) | glo (x : Str)
  | tup (es : List CE) | lst (es : List CE) | dis (es : List CE)
  | bop (o : BO) (a b : CE) | neg (a : CE) | no (a : CE)
  | cmp (o : CO) (a b : CE) | chn (o o' : CO) (a b c : CE)
  | and (a b : CE) | orr (a b : CE)
  | ite (c a b : CE)
  | sub (a i : CE) | slc (a : CE) (lo hi : Option CE) | rev (a : CE)
  | bf (f : BF) (a : CE) | bf2 (f : BF) (a b : CE)
  | mt (m : MF) (o : CE) (es : List CE)
  | call (f : Str) (es : List CE) | meth (m : Str) (o : CE) (es : List CE) | new (c : Str) (es : List CE)
  | attr (o : CE) (f : Str)
  | al (e : CE) | lrev (e : CE)
  | lc (elt : CE) (tg : Tg) (it : It') (cs : List CE)
/-- what is walked -/
inductive It' where
  | seq (e : CE) | keys (e : CE) | rng (e : CE) | rng2 (a b : CE) | enu (e : CE) | zip (a b : CE) | items (e : CE) | values (e : CE) | revd (e : CE)
end

inductive CS where
  | asg (i : Nat) (e : CE) | asgO (i : Nat) (e : CE) | asgT (is : List Nat) (e : CE) | asgP (i j : Nat) (a b : CE)
  | aug (i : Nat) (o : BO) (e : CE)
  | setI (o k e : CE) | setA (o : CE) (f : Str) (e : CE) | mk (c i : Str)
  | xpr (e : CE) | ret (e : CE) | retN
  | ife (c : CE) (a b : List CS) | whl (c : CE) (b : List CS) | for_ (tg : Tg) (it : It') (b : List CS)
  | brk | cnt | pas
  | frz (i : Nat) (s : CS)

/-! ### data -/
def pairUp : List D → Option (List (D × D))
  | [] => some []
  | k :: v :: r => (pairUp r).map ((k, v) :: ·)
  | [_] => none
def keq : D → D → Bool
  | .int i, .int j => decide (i = j)
  | .str x, .str y => decide (x = y)
  | _, _ => false
def isKey : D → Bool
  | .int _ => true
  | .str _ => true
  | _ => false
def dget (kvs : List (D × D)) (k : D) : Option D := (kvs.find? fun p => keq p.1 k).map (·.2)
def dhas (kvs : List (D × D)) (k : D) : Bool := kvs.any fun p => keq p.1 k
def dput (kvs : List (D × D)) (k v : D) : List (D × D) :=
  if dhas kvs k = true then kvs.map (fun p => if keq p.1 k = true then (p.1, v) else p) else kvs ++ [(k, v)]

mutual
/-- plain data: what == of the model is known of -/
def toPy : D → Option PyData
  | .non => some .none
  | .bl b => some (.bool b)
  | .int i => some (.int i)
  | .str s => some (.str s)
  | .tup ds => (toPys ds).map .tuple
  | .lst ds => (toPys ds).map .list
  | _ => none
def toPys : List D → Option (List PyData)
  | [] => some []
  | d :: ds => match toPy d, toPys ds with
    | some x, some xs => some (x :: xs)
    | _, _ => none
end
def shD (d : D) : Bool := match toPy d with
  | some p => SeqAt.shaped p
  | none => false
def eqPy (a b : D) : Bool := match toPy a, toPy b with
  | some x, some y => PyData.eqv x y
  | _, _ => false
/-- two dicts of plain data -/
def dctEq (a b : List (D × D)) : Option Bool := if ((a.all fun p => shD p.2) && b.all fun p => shD p.2) = true then some (decide (a.length = b.length) && a.all fun p => match dget b p.1 with
  | some v => eqPy p.2 v
  | none => false) else none
def deq (a b : D) : Option Bool := match a, b with
  | .int i, .int j => some (decide (i = j))
  | .str x, .str y => some (decide (x = y))
  | .bl x, .bl y => some (decide (x = y))
  | .non, .non => some true
  | .dct x, .dct y => dctEq x y
  | a, b => match toPy a, toPy b with
    | some x, some y => if SeqAt.shaped x = true ∧ SeqAt.shaped y = true then some (PyData.eqv x y) else none
    | _, _ => none

def intsD : List D → Option (List Int)
  | [] => some []
  | .int i :: r => (intsD r).map (i :: ·)
  | _ :: _ => none
def strsD : List D → Option (List Str)
  | [] => some []
  | .str i :: r => (strsD r).map (i :: ·)
  | _ :: _ => none
def blsD : List D → Option (List Bool)
  | [] => some []
  | .bl i :: r => (blsD r).map (i :: ·)
  | _ :: _ => none
def isort (xs : List Int) : List Int := xs.mergeSort (fun a b => decide (a ≤ b))

/-- at least one factor small, or both below a million bits -/
def mulOk (i j : Int) : Prop := CMul i j ∨ CMulW i j
def divOk (j : Int) : Prop := 0 < j ∧ j.natAbs.log2 < 9000
instance (i j : Int) : Decidable (mulOk i j) := by unfold mulOk CMul CMulW; infer_instance
instance (j : Int) : Decidable (divOk j) := by unfold divOk; infer_instance
instance (i j : Int) : Decidable (CPow i j) := by unfold CPow; infer_instance
instance (i j : Int) : Decidable (CMul i j) := by unfold CMul; infer_instance

def bopD : BO → D → D → Option Op
  | .add, .int i, .int j => some (.fz (.int (i + j)))
  | .sub, .int i, .int j => some (.fz (.int (i - j)))
  | .mul, .int i, .int j => if mulOk i j then some (.fz (.int (i * j))) else none
  | .fdiv, .int i, .int j => if divOk j then some (.fz (.int (i / j))) else none
  | .mod, .int i, .int j => if 0 < j then some (.fz (.int (i % j))) else none
  | .pow, .int i, .int j => if CPow i j then some (.fz (.int (i ^ j.toNat))) else none
  | .add, .str x, .str y => if x.length + y.length ≤ sizeLine then some (.fz (.str (x ++ y))) else none
  | .add, .lst xs, .lst ys => if xs.length + ys.length ≤ sizeLine then some (.fr (.lst (xs ++ ys))) else none
  | .add, .tup xs, .tup ys => if xs.length + ys.length ≤ sizeLine then some (.fz (.tup (xs ++ ys))) else none
  | _, _, _ => none

def augD : BO → D → D → Option D
  | .add, .int i, .int j => some (.int (i + j))
  | .sub, .int i, .int j => some (.int (i - j))
  | .mul, .int i, .int j => if CMul i j then some (.int (i * j)) else none
  | .fdiv, .int i, .int j => if divOk j then some (.int (i / j)) else none
  | .mod, .int i, .int j => if 0 < j then some (.int (i % j)) else none
  | .add, .str x, .str y => if x.length + y.length ≤ sizeLine then some (.str (x ++ y)) else none
  | _, _, _ => none
/-- membership among flat things -/
def flatD : D → Bool
  | .non => true | .bl _ => true | .int _ => true | .str _ => true
  | _ => false
def feq : D → D → Bool
  | .non, .non => true
  | .bl a, .bl b => a == b
  | .int a, .int b => a == b
  | .str a, .str b => a == b
  | .bl a, .int b => (if a then (1 : Int) else 0) == b
  | .int a, .bl b => a == (if b then (1 : Int) else 0)
  | _, _ => false
def memD (x : D) (ds : List D) : Option Bool := if flatD x && ds.all flatD then some (ds.any fun y => feq y x) else none
def pyIn (x : D) (ds : List D) : Option Bool := match memD x ds with
  | some b => some b
  | none => match toPy x, toPys ds with
    | some p, some ps => if SeqAt.shaped p = true ∧ SeqAt.shaped (.list ps) = true then some (ps.any fun q => PyData.eqv q p) else none
    | _, _ => none
def inD (x : D) : D → Option Bool
  | .lst ds => pyIn x ds
  | .tup ds => pyIn x ds
  | .dct kvs => if isKey x then some (dhas kvs x) else none
  | .str z => (match x with
    | .str y => (match y.cps.toList with
      | [c] => some (decide (c ∈ z.cps.toList))
      | _ => none)
    | _ => none)
  | _ => none

def isNon : D → Bool
  | .non => true
  | _ => false
def cmpD : CO → D → D → Option Bool
  | .eq, a, b => deq a b
  | .ne, a, b => (deq a b).map (!·)
  | .lt, .int i, .int j => some (decide (i < j))
  | .le, .int i, .int j => some (decide (i ≤ j))
  | .gt, .int i, .int j => some (decide (j < i))
  | .ge, .int i, .int j => some (decide (j ≤ i))
  | .is, a, .non => some (isNon a)
  | .isn, a, .non => some (!isNon a)
  | .inn, a, b => inD a b
  | .nin, a, b => (inD a b).map (!·)
  | _, _, _ => none

def lenD : D → Option Nat
  | .tup ds => some ds.length
  | .lst ds => some ds.length
  | .dct kvs => some kvs.length
  | .str s => if s.length ≤ sizeLine then some s.length else none
  | _ => none
def tys : List String := ["int", "bool", "str", "tuple", "list", "dict"]
def isB (T t : String) : Option Bool := if t ∈ tys then some (T == t || (T == "bool" && t == "int")) else none
def tyN : D → Option String
  | .non => some "NoneType" | .int _ => some "int" | .bl _ => some "bool" | .str _ => some "str" | .tup _ => some "tuple" | .lst _ => some "list" | .dct _ => some "dict"
  | _ => none
def isaD (t : String) (d : D) : Option Bool := match tyN d with
  | some T => isB T t
  | none => none
def maxI : List Int → Int
  | [] => 0
  | [x] => x
  | x :: y :: r => max x (maxI (y :: r))
def minI : List Int → Int
  | [] => 0
  | [x] => x
  | x :: y :: r => min x (minI (y :: r))
def nodups (ds : List D) : Option Nat := match intsD ds with
  | some ns => some ns.eraseDups.length
  | none => match strsD ds with
    | some ss => some ss.eraseDups.length
    | none => none
/-- ints, each once, as they are first met -/
def ddI (ns : List Int) : List Int := ns.foldl PyProof.Rows.step_dedup []
def bfD : BF → D → Option Op
  | .len, d => (lenD d).map fun n => .fz (.int n)
  | .list, .tup ds => some (.fr (.lst ds))
  | .list, .lst ds => some (.fr (.lst ds))
  | .list, .dct kvs => some (.fr (.lst (kvs.map (·.1))))
  | .tuple, .tup ds => some (.fz (.tup ds))
  | .tuple, .lst ds => some (.fz (.tup ds))
  | .dict, .dct kvs => some (.fr (.dct kvs))
  | .sum, .lst ds => (intsD ds).map fun ns => .fz (.int ns.sum)
  | .min, .lst ds => (match intsD ds with
    | some (n :: r) => some (.fz (.int (minI (n :: r))))
    | _ => none)
  | .max, .lst ds => (match intsD ds with
    | some (n :: r) => some (.fz (.int (maxI (n :: r))))
    | _ => none)
  | .any, .lst ds => (blsD ds).map fun bs => .fz (.bl (bs.any id))
  | .all, .lst ds => (blsD ds).map fun bs => .fz (.bl (bs.all id))
  | .sorted, .lst ds => (intsD ds).map fun ns => .fr (.lst ((isort ns).map .int))
  | .sorted, .tup ds => (intsD ds).map fun ns => .fr (.lst ((isort ns).map .int))
  | .int, .int i => some (.fz (.int i))
  | .int, .bl b => some (.fz (.int (if b then 1 else 0)))
  | .abs, .int i => some (.fz (.int (if i < 0 then -i else i)))
  | .lenset, .lst ds => ((intsD ds).filter fun ns => decide (ns.length ≤ 4000)).map fun ns => .fz (.int (ddI ns).length)
  | .isa t, d => (isaD t d).map fun b => .fz (.bl b)
  | _, _ => none
def bf2D : BF → D → D → Option Op
  | .max2, .int i, .int j => some (.fz (.int (if j > i then j else i)))
  | .min2, .int i, .int j => some (.fz (.int (if j < i then j else i)))
  | _, _, _ => none
def subD : D → D → Option D
  | .tup ds, .int i => atI ds i
  | .lst ds, .int i => atI ds i
  | .str z, .int i => if z.length ≤ sizeLine then (atI z.cps.toList i).map fun c => .str ⟨#[c]⟩ else none
  | .dct kvs, k => if isKey k then dget kvs k else none
  | _, _ => none
def cutD (xs : List D) (lo hi : Option Int) : List D := (xs.drop (HT.sIx xs.length 0 lo)).take (HT.sIx xs.length xs.length hi - HT.sIx xs.length 0 lo)
def slcD : D → Option Int → Option Int → Option Op
  | .str z, lo, hi => if z.length ≤ sizeLine then some (.fz (.str (cutS z lo hi))) else none
  | .lst ds, lo, hi => some (.fr (.lst (cutD ds lo hi)))
  | .tup ds, lo, hi => some (.fz (.tup (cutD ds lo hi)))
  | _, _, _ => none

/-! ### places -/
def Op.d : Op → Option D
  | .fz d => some d
  | .fr d => some d
  | .sl _ => none
def cont (ρ : Env') (S : Sto) : Op → Option D
  | .fz (.ref n) => (match S[n]? with
    | some (.da d) => some d
    | _ => none)
  | .fz d => some d
  | .fr d => some d
  | .sl i => (match ρ[i]? with
    | some (.ow d) => some d
    | _ => none)
/-- the content, or the thing itself -/
def look (ρ : Env') (S : Sto) (o : Op) : Option D := match cont ρ S o with
  | some d => some d
  | none => o.d
def setC (ρ : Env') (S : Sto) (o : Op) (d : D) : Option (Env' × Sto) := match o with
  | .fz (.ref n) => (match S[n]? with
    | some (.da _) => some (ρ, S.set n (.da d))
    | _ => none)
  | .sl i => (match ρ[i]? with
    | some (.ow _) => some (ρ.set i (.ow d), S)
    | _ => none)
  | _ => none

def mtD : MF → D → List D → Option (D × Option D)
  | .append, .lst ds, [x] => if ds.length < sizeLine then some (.non, some (.lst (ds ++ [x]))) else none
  | .pop, .lst ds, [] => ds.getLast?.map fun y => (y, some (.lst ds.dropLast))
  | .popAt, .lst ds, [.int i] => if -(2 ^ 63) ≤ i ∧ i < 2 ^ 63 then (match seqIndex? i ds.length with
    | some k => ds[k]?.map fun y => (y, some (.lst (ds.eraseIdx k)))
    | none => none) else none
  | .insert, .lst ds, [.int i, y] => if ds.length < sizeLine ∧ 0 ≤ i ∧ i < 2 ^ 63 then some (.non, some (.lst (ds.take i.toNat ++ y :: ds.drop i.toNat))) else none
  | .clear, .lst _, [] => some (.non, some (.lst []))
  | .index, .str z, [.str y] => (Txt.index0 z y).map fun k => (.int (k : Nat), none)
  | .get2, .dct kvs, [k, x] => if isKey k then some ((dget kvs k).getD x, none) else none
  | .join, .str z, [.lst ds] => (match strsD ds with
    | some ss => if (ss.map (·.length)).sum + ss.length * z.length ≤ 16777216 then some (.str (Str.join z ss), none) else none
    | none => none)
  | _, _, _ => none

/-! ### runs -/
def bnd {α β : Type} (m : Option (α × Env' × Sto)) (f : α → Env' → Sto → Option β) : Option β := match m with
  | some (a, ρ, S) => f a ρ S
  | none => none
@[simp] theorem bnd_some {α β : Type} (a : α) (ρ : Env') (S : Sto) (f : α → Env' → Sto → Option β) : bnd (some (a, ρ, S)) f = f a ρ S := rfl
@[simp] theorem bnd_none {α β : Type} (f : α → Env' → Sto → Option β) : bnd none f = none := rfl
def obd {α β : Type} (m : Option α) (f : α → Option β) : Option β := match m with
  | some a => f a
  | none => none
@[simp] theorem obd_some {α β : Type} (a : α) (f : α → Option β) : obd (some a) f = f a := rfl
@[simp] theorem obd_none {α β : Type} (f : α → Option β) : obd none f = none := rfl

inductive Out where
  | nx (ρ : Env') (S : Sto) | rt (o : Op) (S : Sto) | bk (ρ : Env') (S : Sto) | ct (ρ : Env') (S : Sto)

def Tg.ixs : Tg → List Nat
  | .one i => [i]
  | .many is => is
def setAll : List Nat → List D → Env' → Option Env'
  | [], [], ρ => some ρ
  | i :: is, d :: ds, ρ => setAll is ds (ρ.set i (.va d))
  | _, _, _ => none
def bindT (t : Tg) (d : D) (ρ : Env') : Option Env' := match t with
  | .one i => some (ρ.set i (.va d))
  | .many is => (match d with
    | .tup ds => setAll is ds ρ
    | _ => none)
def wipeT (is : List Nat) (ρ : Env') : Env' := is.foldl (fun ρ i => ρ.set i .no) ρ
def backT (is : List Nat) (ρ ρ' : Env') : Env' := is.foldl (fun r i => match ρ[i]? with
  | some s => r.set i s
  | none => r) ρ'
def noOw (is : List Nat) (ρ : Env') : Bool := is.all fun i => match ρ[i]? with
  | some (.ow _) => false
  | _ => true
/-- the name under which a class is made; under which it is told that a class has no name f -/
def newName (c : Str) : Str := "new " ++ c
def isNew (f : Str) : Bool := f.cps.toList.take 4 == [110, 101, 119, 32]
def isDef (f : Str) : Bool := !isNew f && !f.cps.toList.contains 46
def atName (f : Str) : Str := "." ++ f
def isAt (f : Str) : Bool := f.cps.toList.take 1 == [46]
def putFD (f : Str) (v : D) : List (Str × D) → List (Str × D)
  | [] => [(f, v)]
  | (g, x) :: r => if g = f then (g, v) :: r else (g, x) :: putFD f v r
def vaAll : Env' → Option (List D)
  | [] => some []
  | .va d :: r => (vaAll r).map (d :: ·)
  | _ :: _ => none
/-- the calls that are known: a def's name, arguments, store; own: the value is a new list or dict that nobody else holds -/
abbrev Calls' := Str → List D → Sto → Option (Op × Sto)

def lcL (tg : Tg) (one : Env' → Sto → Option (Option D × Env' × Sto)) : List D → List D → Env' → Sto → Option (List D × Env' × Sto)
  | [], acc, ρ, S => some (acc, ρ, S)
  | d :: ds, acc, ρ, S => obd (bindT tg d ρ) fun ρ1 => bnd (one ρ1 S) fun r ρ2 S2 => match r with
    | some x => if acc.length < sizeLine then lcL tg one ds (acc ++ [x]) (wipeT tg.ixs ρ2) S2 else none
    | none => lcL tg one ds acc (wipeT tg.ixs ρ2) S2
def forL (tg : Tg) (one : Env' → Sto → Option Out) : List D → Env' → Sto → Option Out
  | [], ρ, S => some (.nx ρ S)
  | d :: ds, ρ, S => obd (bindT tg d ρ) fun ρ1 => obd (one ρ1 S) fun r => match r with
    | .nx ρ2 S2 => forL tg one ds ρ2 S2
    | .ct ρ2 S2 => forL tg one ds ρ2 S2
    | .bk ρ2 S2 => some (.nx ρ2 S2)
    | .rt o S2 => some (.rt o S2)
def whlL (c : Env' → Sto → Option (Bool × Env' × Sto)) (one : Env' → Sto → Option Out) : Nat → Env' → Sto → Option Out
  | 0, _, _ => none
  | n + 1, ρ, S => bnd (c ρ S) fun b ρ1 S1 => match b with
    | false => some (.nx ρ1 S1)
    | true => obd (one ρ1 S1) fun r => match r with
      | .nx ρ2 S2 => whlL c one n ρ2 S2
      | .ct ρ2 S2 => whlL c one n ρ2 S2
      | .bk ρ2 S2 => some (.nx ρ2 S2)
      | .rt o S2 => some (.rt o S2)
/-- the most turns of a while -/
@[irreducible] def fuel : Nat := 1000000000
def enumD (ds : List D) : List D := ds.zipIdx.map fun p => .tup [.int (p.2 : Nat), p.1]
def zipD (a b : List D) : List D := (a.zip b).map fun p => .tup [p.1, p.2]
def chars (z : Str) : List D := z.cps.toList.map fun c => .str ⟨#[c]⟩
def seqD : D → Option (List D)
  | .tup ds => some ds
  | .lst ds => some ds
  | .str z => some (chars z)
  | _ => none
def smallI (i : Int) : Prop := -(2 ^ 62) ≤ i ∧ i < 2 ^ 62
instance (i : Int) : Decidable (smallI i) := by unfold smallI; infer_instance
def rngD (i j : Int) : Option (List D) := if smallI i ∧ smallI j then some ((List.range (j - i).toNat).map fun (k : Nat) => .int (i + k)) else none

/-- what stands where a path leads: a name, an item of a tuple there -/
def pathD : CE → Env' → Option D
  | .var i, ρ => (match ρ[i]? with
    | some (.va d) => some d
    | _ => none)
  | .sub a (.int n), ρ => (match pathD a ρ with
    | some (.tup ds) => atI ds n
    | _ => none)
  | _, _ => none
def isPath : CE → Bool
  | .var _ => true
  | .sub a (.int _) => isPath a
  | _ => false
def asDct : D → Option (List (D × D))
  | .dct kvs => some kvs
  | _ => none
section
variable (G : Str → Option D) (C : Calls') (M : Str → Str → Option Str)
mutual
def evE : CE → Env' → Sto → Option (Op × Env' × Sto)
  | .var i, ρ, S => (match ρ[i]? with
    | some (.va d) => some (.fz d, ρ, S)
    | _ => none)
  | .rd i, ρ, S => (match ρ[i]? with
    | some (.ow _) => some (.sl i, ρ, S)
    | some (.va d) => some (.fz d, ρ, S)
    | _ => none)
  | .mv i, ρ, S => (match ρ[i]? with
    | some (.ow d) => some (.fr d, ρ.set i .no, S)
    | _ => none)
  | .non, ρ, S => some (.fz .non, ρ, S)
  | .bl b, ρ, S => some (.fz (.bl b), ρ, S)
  | .int i, ρ, S => some (.fz (.int i), ρ, S)
  | .str s, ρ, S => some (.fz (.str s), ρ, S)
  | .glo x, ρ, S => obd (G x) fun d => some (.fz d, ρ, S)
  | .tup es, ρ, S => bnd (evL es ρ S) fun ds ρ S => if ds.length ≤ sizeLine then some (.fz (.tup ds), ρ, S) else none
  | .lst es, ρ, S => bnd (evL es ρ S) fun ds ρ S => if ds.length ≤ sizeLine then some (.fr (.lst ds), ρ, S) else none
  | .dis es, ρ, S => bnd (evL es ρ S) fun ds ρ S => obd (pairUp ds) fun kvs => if kvs.length ≤ 15 ∧ (kvs.all fun p => isKey p.1) = true then some (.fr (.dct (kvs.foldl (fun acc p => dput acc p.1 p.2) [])), ρ, S) else none
  | .bop o a b, ρ, S => bnd (evE a ρ S) fun x ρ S => bnd (evE b ρ S) fun y ρ S => obd (cont ρ S x) fun dx => obd (cont ρ S y) fun dy => obd (bopD o dx dy) fun r => some (r, ρ, S)
  | .neg a, ρ, S => bnd (evE a ρ S) fun x ρ S => (match x with
    | .fz (.int i) => some (.fz (.int (-i)), ρ, S)
    | _ => none)
  | .no a, ρ, S => bnd (evE a ρ S) fun x ρ S => (match x with
    | .fz (.bl b) => some (.fz (.bl (!b)), ρ, S)
    | _ => none)
  | .cmp o a b, ρ, S => bnd (evE a ρ S) fun x ρ S => bnd (evE b ρ S) fun y ρ S => obd (look ρ S x) fun dx => obd (look ρ S y) fun dy => obd (cmpD o dx dy) fun r => some (.fz (.bl r), ρ, S)
  | .chn o o' a b c, ρ, S => bnd (evE a ρ S) fun x ρ S => bnd (evE b ρ S) fun y ρ S => obd (look ρ S x) fun dx => obd (look ρ S y) fun dy => obd (cmpD o dx dy) fun r => (match r with
    | false => some (.fz (.bl false), ρ, S)
    | true => bnd (evE c ρ S) fun z ρ S => obd (look ρ S y) fun dy => obd (look ρ S z) fun dz => obd (cmpD o' dy dz) fun r => some (.fz (.bl r), ρ, S))
  | .and a b, ρ, S => bnd (evE a ρ S) fun x ρ S => (match x with
    | .fz (.bl true) => evE b ρ S
    | .fz (.bl false) => some (.fz (.bl false), ρ, S)
    | _ => none)
  | .orr a b, ρ, S => bnd (evE a ρ S) fun x ρ S => (match x with
    | .fz (.bl true) => some (.fz (.bl true), ρ, S)
    | .fz (.bl false) => evE b ρ S
    | _ => none)
  | .ite c a b, ρ, S => bnd (evE c ρ S) fun x ρ S => (match x with
    | .fz (.bl true) => evE a ρ S
    | .fz (.bl false) => evE b ρ S
    | _ => none)
  | .sub a i, ρ, S => bnd (evE a ρ S) fun x ρ S => bnd (evE i ρ S) fun y ρ S => obd (cont ρ S x) fun dx => obd y.d fun dy => obd (subD dx dy) fun r => some (.fz r, ρ, S)
  | .slc a lo hi, ρ, S => bnd (evE a ρ S) fun x ρ S => bnd (evO lo ρ S) fun l ρ S => bnd (evO hi ρ S) fun h ρ S => obd (cont ρ S x) fun dx => obd (slcD dx l h) fun r => some (r, ρ, S)
  | .rev a, ρ, S => bnd (evE a ρ S) fun x ρ S => obd (cont ρ S x) fun dx => (match dx with
    | .lst ds => some (.fr (.lst ds.reverse), ρ, S)
    | _ => none)
  | .bf f a, ρ, S => bnd (evE a ρ S) fun x ρ S => obd (look ρ S x) fun dx => obd (bfD f dx) fun r => some (r, ρ, S)
  | .bf2 f a b, ρ, S => bnd (evE a ρ S) fun x ρ S => bnd (evE b ρ S) fun y ρ S => obd (look ρ S x) fun dx => obd (look ρ S y) fun dy => obd (bf2D f dx dy) fun r => some (r, ρ, S)
  | .mt m o es, ρ, S => bnd (evE o ρ S) fun x ρ S => obd (cont ρ S x) fun d0 => bnd (evL es ρ S) fun ds ρ S => obd (cont ρ S x) fun dx => if tyN d0 = tyN dx then obd (mtD m dx ds) fun r => (match r.2 with
    | none => some (.fz r.1, ρ, S)
    | some d => obd (setC ρ S x d) fun q => some (.fz r.1, q.1, q.2)) else none
  | .call f es, ρ, S => bnd (evL es ρ S) fun ds ρ S => obd (C f ds S) fun r => some (r.1, ρ, r.2)
  | .meth m o es, ρ, S => bnd (evE o ρ S) fun x ρ S => (match x with
    | .fz (.ref n) => (match S[n]? with
      | some (.ins c fs) => if (fs.lookup m).isSome || isAt m then none else obd (M c m) fun f => bnd (evL es ρ S) fun ds ρ S => obd (C f (.ref n :: ds) S) fun r => some (r.1, ρ, r.2)
      | _ => none)
    | _ => none)
  | .new c es, ρ, S => bnd (evL es ρ S) fun ds ρ S => obd (C (newName c) ds S) fun r => some (r.1, ρ, r.2)
  | .attr o f, ρ, S => bnd (evE o ρ S) fun x ρ S => (match x with
    | .fz (.ref n) => (match S[n]? with
      | some (.ins c fs) => obd (M c (atName f)) fun _ => obd (fs.lookup f) fun d => some (.fz d, ρ, S)
      | _ => none)
    | _ => none)
  | .al e, ρ, S => bnd (evE e ρ S) fun x ρ S => (match x with
    | .fr d => some (.fz (.ref S.length), ρ, S ++ [.da d])
    | _ => none)
  | .lrev e, ρ, S => bnd (evE e ρ S) fun x ρ S => obd (look ρ S x) fun dx => (match dx with
    | .lst ds => some (.fr (.lst ds.reverse), ρ, S)
    | _ => none)
  | .lc elt tg it cs, ρ, S => bnd (evI it ρ S) fun ds ρ S => if noOw tg.ixs ρ = true then
      bnd (lcL tg (fun ρ S => bnd (evC cs ρ S) fun b ρ S => (match b with
        | true => bnd (evE elt ρ S) fun x ρ S => obd x.d fun d => some (some d, ρ, S)
        | false => some (none, ρ, S))) ds [] (wipeT tg.ixs ρ) S) fun r ρ' S' => some (.fr (.lst r), backT tg.ixs ρ ρ', S') else none
def evL : List CE → Env' → Sto → Option (List D × Env' × Sto)
  | [], ρ, S => some ([], ρ, S)
  | e :: es, ρ, S => bnd (evE e ρ S) fun x ρ S => obd x.d fun d => bnd (evL es ρ S) fun ds ρ S => some (d :: ds, ρ, S)
def evO : Option CE → Env' → Sto → Option (Option Int × Env' × Sto)
  | none, ρ, S => some (none, ρ, S)
  | some e, ρ, S => bnd (evE e ρ S) fun x ρ S => (match x with
    | .fz (.int i) => some (some i, ρ, S)
    | _ => none)
/-- tests, all of them -/
def evC : List CE → Env' → Sto → Option (Bool × Env' × Sto)
  | [], ρ, S => some (true, ρ, S)
  | e :: es, ρ, S => bnd (evE e ρ S) fun x ρ S => (match x with
    | .fz (.bl true) => evC es ρ S
    | .fz (.bl false) => some (false, ρ, S)
    | _ => none)
def evI : It' → Env' → Sto → Option (List D × Env' × Sto)
  | .seq e, ρ, S => bnd (evE e ρ S) fun x ρ S => obd x.d fun d => obd (seqD d) fun ds => some (ds, ρ, S)
  | .rng e, ρ, S => bnd (evE e ρ S) fun x ρ S => (match x with
    | .fz (.int n) => obd (rngD 0 n) fun ds => some (ds, ρ, S)
    | _ => none)
  | .rng2 a b, ρ, S => bnd (evE a ρ S) fun x ρ S => bnd (evE b ρ S) fun y ρ S => (match x, y with
    | .fz (.int i), .fz (.int j) => obd (rngD i j) fun ds => some (ds, ρ, S)
    | _, _ => none)
  | .enu e, ρ, S => bnd (evE e ρ S) fun x ρ S => obd x.d fun d => (match d with
    | .lst ds => some (enumD ds, ρ, S)
    | _ => none)
  | .zip a b, ρ, S => bnd (evE a ρ S) fun x ρ S => bnd (evE b ρ S) fun y ρ S => obd x.d fun d => obd y.d fun e => (match d, e with
    | .lst ds, .lst es => some (zipD ds es, ρ, S)
    | .tup ds, .tup es => some (zipD ds es, ρ, S)
    | _, _ => none)
  | .keys e, ρ, S => obd (pathD e ρ) fun d => obd (asDct d) fun kvs => some (kvs.map (·.1), ρ, S)
  | .items e, ρ, S => obd (pathD e ρ) fun d => obd (asDct d) fun kvs => some (kvs.map fun p => .tup [p.1, p.2], ρ, S)
  | .values e, ρ, S => obd (pathD e ρ) fun d => obd (asDct d) fun kvs => some (kvs.map (·.2), ρ, S)
  | .revd e, ρ, S => bnd (evE e ρ S) fun x ρ S => obd x.d fun d => (match d with
    | .lst ds => some (ds.reverse, ρ, S)
    | _ => none)
end
mutual
def evS : CS → Env' → Sto → Option Out
  | .asg i e, ρ, S => bnd (evE G C M e ρ S) fun x ρ S => obd x.d fun d => some (.nx (ρ.set i (.va d)) S)
  | .asgO i e, ρ, S => bnd (evE G C M e ρ S) fun x ρ S => (match x with
    | .fr d => some (.nx (ρ.set i (.ow d)) S)
    | _ => none)
  | .asgT is e, ρ, S => bnd (evE G C M e ρ S) fun x ρ S => obd x.d fun d => (match d with
    | .tup ds => obd (setAll is ds ρ) fun ρ => some (.nx ρ S)
    | _ => none)
  | .asgP i j a b, ρ, S => bnd (evL G C M [a, b] ρ S) fun ds ρ S => (match ds with
    | [x, y] => some (.nx ((ρ.set i (.va x)).set j (.va y)) S)
    | _ => none)
  | .aug i o e, ρ, S => (match ρ[i]? with
    | some (.va d) => bnd (evE G C M e ρ S) fun x ρ S => obd x.d fun y => obd (augD o d y) fun r => some (.nx (ρ.set i (.va r)) S)
    | _ => none)
  | .setI o k e, ρ, S => bnd (evE G C M e ρ S) fun x ρ S => obd x.d fun v => bnd (evE G C M o ρ S) fun p ρ S => bnd (evE G C M k ρ S) fun y ρ S => obd y.d fun kd => obd (cont ρ S p) fun c => (match c, kd with
    | .lst ds, .int i => obd (ixN ds.length i) fun j => obd (setC ρ S p (.lst (ds.set j v))) fun q => some (.nx q.1 q.2)
    | .dct kvs, kd => if isKey kd = true ∧ kvs.length < sizeLine then obd (setC ρ S p (.dct (dput kvs kd v))) fun q => some (.nx q.1 q.2) else none
    | _, _ => none)
  | .setA o f e, ρ, S => bnd (evE G C M e ρ S) fun x ρ S => obd x.d fun v => bnd (evE G C M o ρ S) fun p ρ S => (match p with
    | .fz (.ref n) => (match S[n]? with
      | some (.ins c fs) => obd (M c (atName f)) fun _ => if fs.length < 1000 then some (.nx ρ (S.set n (.ins c (putFD f v fs)))) else none
      | _ => none)
    | _ => none)
  | .mk c i, ρ, S => obd (vaAll ρ) fun ds => obd (C i (.ref S.length :: ds) (S ++ [.ins c []])) fun r => (match r.1 with
    | .fz .non => some (.rt (.fz (.ref S.length)) r.2)
    | _ => none)
  | .xpr e, ρ, S => bnd (evE G C M e ρ S) fun _ ρ S => some (.nx ρ S)
  | .ret e, ρ, S => bnd (evE G C M e ρ S) fun x _ S => (match x with
    | .sl _ => none
    | .fz d => some (.rt (.fz d) S)
    | .fr d => some (.rt (.fr d) S))
  | .retN, _, S => some (.rt (.fz .non) S)
  | .ife c a b, ρ, S => bnd (evE G C M c ρ S) fun x ρ S => (match x with
    | .fz (.bl true) => evSs a ρ S
    | .fz (.bl false) => evSs b ρ S
    | _ => none)
  | .whl c b, ρ, S => whlL (fun ρ S => evC G C M [c] ρ S) (fun ρ S => evSs b ρ S) fuel ρ S
  | .for_ tg it b, ρ, S => bnd (evI G C M it ρ S) fun ds ρ S => forL tg (fun ρ S => evSs b ρ S) ds ρ S
  | .brk, ρ, S => some (.bk ρ S)
  | .cnt, ρ, S => some (.ct ρ S)
  | .pas, ρ, S => some (.nx ρ S)
  | .frz i s, ρ, S => (match ρ[i]? with
    | some (.ow d) => evS s (ρ.set i (.va d)) S
    | some (.va _) => evS s ρ S
    | _ => none)
def evSs : List CS → Env' → Sto → Option Out
  | [], ρ, S => some (.nx ρ S)
  | s :: r, ρ, S => obd (evS s ρ S) fun o => (match o with
    | .nx ρ S => evSs r ρ S
    | o => some o)
end
end
/-- a def of the text: its slots, its parameters, its body -/
structure Fn where
  n : Nat
  ps : Nat
  body : List CS
def env0 (n : Nat) (ds : List D) : Env' := ds.map .va ++ List.replicate (n - ds.length) .no
def runF (G : Str → Option D) (C : Calls') (M : Str → Str → Option Str) (f : Fn) (ds : List D) (S : Sto) : Option (Op × Sto) :=
  if ds.length = f.ps then obd (evSs G C M f.body (env0 f.n ds) S) fun o => (match o with
    | .rt x S => some (x, S)
    | .nx _ S => some (.fz .non, S)
    | _ => none) else none
/-- k calls deep -/
def callK (G : Str → Option D) (F : Str → Option Fn) (M : Str → Str → Option Str) : Nat → Calls'
  | 0, _, _, _ => none
  | k + 1, f, ds, S => obd (F f) fun fn => runF G (callK G F M k) M fn ds S
end Sk

/-! Sk2: how the data stand in the abstract heap. -/
namespace Sk
open PySem PySem.Spec PyProof.Rows L2

/-- a list, a tuple of the written part -/
def KLs (K : PySem.W.Frag) (a : Addr) (xs : List V) : Prop := ∃ (o : Obj) (its : Array Value) (n : Nat), K.lookup a = some o ∧ o.cls = .type "list" ∧ o.dict = none ∧ o.data = .seq its n ∧ its.size ≤ sizeLine ∧ Vals xs its.toList
def KTp (K : PySem.W.Frag) (a : Addr) (xs : List V) : Prop := ∃ (o : Obj) (its : Array Value) (n : Nat), K.lookup a = some o ∧ o.cls = .type "tuple" ∧ o.data = .seq its n ∧ its.size ≤ sizeLine ∧ Vals xs its.toList
def FzL (K : PySem.W.Frag) (ex : Addr → Prop) (H : Hp) (a : Addr) (xs : List V) : Prop := (Rd H a (.lst xs) ∧ ¬ ex a) ∨ KLs K a xs
def FzT (K : PySem.W.Frag) (ex : Addr → Prop) (H : Hp) (a : Addr) (xs : List V) : Prop := (Rd H a (.tup xs) ∧ ¬ ex a) ∨ KTp K a xs
def toKey : D → Option Key
  | .int i => some (.inl i)
  | .str x => some (.inr x)
  | _ => none

variable (K : PySem.W.Frag) (mg : Str → Option Value)
section
variable (φ : List Addr) (ex : Addr → Prop) (H : Hp)
mutual
inductive RepV : D → V → Prop
  | non : RepV .non .non
  | bl (b : Bool) : RepV (.bl b) (.bl b)
  | int (i : Int) : RepV (.int i) (.int i)
  | str (x : Str) : RepV (.str x) (.str x)
  | tup {ds : List D} {a : Addr} {vs : List V} : FzT K ex H a vs → RepVs ds vs → RepV (.tup ds) (.ref a)
  | lst {ds : List D} {a : Addr} {vs : List V} : FzL K ex H a vs → RepVs ds vs → RepV (.lst ds) (.ref a)
  | dct {kvs : List (D × D)} {a : Addr} {ks : List (Key × V)} : Rd H a (.dK ks) → ¬ ex a → RepK kvs ks → RepV (.dct kvs) (.ref a)
  | ref {n : Nat} {a : Addr} : φ[n]? = some a → RepV (.ref n) (.ref a)
  | fn {f : Str} {a : Addr} : mg f = some (.ref a) → RepV (.fn f) (.ref a)
inductive RepVs : List D → List V → Prop
  | nil : RepVs [] []
  | cons {d : D} {v : V} {ds : List D} {vs : List V} : RepV d v → RepVs ds vs → RepVs (d :: ds) (v :: vs)
inductive RepK : List (D × D) → List (Key × V) → Prop
  | nil : RepK [] []
  | cons {k d : D} {k' : Key} {v : V} {ds : List (D × D)} {vs : List (Key × V)} : toKey k = some k' → RepV d v → RepK ds vs → RepK ((k, d) :: ds) ((k', v) :: vs)
end
end

variable {K : PySem.W.Frag} {mg : Str → Option Value}
theorem Rd.keep {H H' : Hp} {a : Addr} {u : HO} (r : Rd H a u) (k : ∀ o, H a = some o → H' a = some o) : Rd H' a u := by
  rcases r with r | ⟨o, r⟩
  · exact .inl (k _ r)
  · exact .inr ⟨o, k _ r⟩
theorem Rd.some {H : Hp} {a : Addr} {u : HO} (r : Rd H a u) : H a ≠ none := by
  rcases r with r | ⟨o, r⟩ <;> (rw [r]; exact fun z => nomatch z)
section
variable {φ φ' : List Addr} {ex ex' : Addr → Prop} {H H' : Hp}
theorem FzL.sq {a : Addr} {xs : List V} (h : FzL K ex H a xs) : SqL K H a xs := by
  rcases h with ⟨h, _⟩ | h
  · exact .inl h
  · exact .inr h
theorem FzT.sq {a : Addr} {xs : List V} (h : FzT K ex H a xs) : SqT K H a xs := by
  rcases h with ⟨h, _⟩ | h
  · exact .inl h
  · exact .inr h
structure Mv (φ φ' : List Addr) (ex ex' : Addr → Prop) (H H' : Hp) : Prop where
  pre : ∀ (n : Nat) (a : Addr), φ[n]? = some a → φ'[n]? = some a
  fr : ∀ b o, H b = some o → ¬ ex b → H' b = some o
  ne : ∀ b, ex' b → ex b ∨ H b = none
theorem Mv.nex (m : Mv φ φ' ex ex' H H') {a : Addr} {u : HO} (r : Rd H a u) (n : ¬ ex a) : Rd H' a u ∧ ¬ ex' a :=
  ⟨Rd.keep r fun o e => m.fr a o e n, fun z => (m.ne a z).elim n fun q => Rd.some r q⟩
mutual
theorem RepV.mv (m : Mv φ φ' ex ex' H H') : ∀ {d : D} {v : V}, RepV K mg φ ex H d v → RepV K mg φ' ex' H' d v
  | _, _, .non => .non
  | _, _, .bl b => .bl b
  | _, _, .int i => .int i
  | _, _, .str x => .str x
  | _, _, .tup h r => .tup (h.elim (fun ⟨h, n⟩ => .inl (m.nex h n)) .inr) (RepVs.mv m r)
  | _, _, .lst h r => .lst (h.elim (fun ⟨h, n⟩ => .inl (m.nex h n)) .inr) (RepVs.mv m r)
  | _, _, .dct h n r => .dct (m.nex h n).1 (m.nex h n).2 (RepK.mv m r)
  | _, _, .ref h => .ref (m.pre _ _ h)
  | _, _, .fn h => .fn h
theorem RepVs.mv (m : Mv φ φ' ex ex' H H') : ∀ {ds : List D} {vs : List V}, RepVs K mg φ ex H ds vs → RepVs K mg φ' ex' H' ds vs
  | _, _, .nil => .nil
  | _, _, .cons h r => .cons (RepV.mv m h) (RepVs.mv m r)
theorem RepK.mv (m : Mv φ φ' ex ex' H H') : ∀ {ds : List (D × D)} {vs : List (Key × V)}, RepK K mg φ ex H ds vs → RepK K mg φ' ex' H' ds vs
  | _, _, .nil => .nil
  | _, _, .cons k h r => .cons k (RepV.mv m h) (RepK.mv m r)
end
theorem Mv.less (h : ∀ b, ex' b → ex b) : Mv φ φ ex ex' H H := ⟨fun _ _ e => e, fun _ _ e _ => e, fun b z => .inl (h b z)⟩
theorem RepVs.length : ∀ {ds : List D} {vs : List V}, RepVs K mg φ ex H ds vs → ds.length = vs.length
  | _, _, .nil => rfl
  | _, _, .cons _ r => congrArg (· + 1) (RepVs.length r)
theorem RepK.length : ∀ {ds : List (D × D)} {vs : List (Key × V)}, RepK K mg φ ex H ds vs → ds.length = vs.length
  | _, _, .nil => rfl
  | _, _, .cons _ _ r => congrArg (· + 1) (RepK.length r)
theorem RepVs.get : ∀ {ds : List D} {vs : List V} {i : Nat} {d : D}, RepVs K mg φ ex H ds vs → ds[i]? = some d → ∃ v, vs[i]? = some v ∧ RepV K mg φ ex H d v
  | _, _, _, _, .nil, e => by simp at e
  | _, _, 0, _, .cons h _, e => by
    simp only [List.getElem?_cons_zero, Option.some.injEq] at e
    subst e
    exact ⟨_, rfl, h⟩
  | _, _, i + 1, _, .cons _ r, e => by
    simp only [List.getElem?_cons_succ] at e
    obtain ⟨v, h1, h2⟩ := RepVs.get r e
    exact ⟨v, by simpa using h1, h2⟩
theorem RepVs.app : ∀ {ds es : List D} {vs us : List V}, RepVs K mg φ ex H ds vs → RepVs K mg φ ex H es us → RepVs K mg φ ex H (ds ++ es) (vs ++ us)
  | _, _, _, _, .nil, s => s
  | _, _, _, _, .cons h r, s => .cons h (RepVs.app r s)
theorem RepVs.drop : ∀ {ds : List D} {vs : List V} (n : Nat), RepVs K mg φ ex H ds vs → RepVs K mg φ ex H (ds.drop n) (vs.drop n)
  | _, _, 0, h => h
  | _, _, n + 1, .nil => .nil
  | _, _, n + 1, .cons _ r => RepVs.drop n r
theorem RepVs.take : ∀ {ds : List D} {vs : List V} (n : Nat), RepVs K mg φ ex H ds vs → RepVs K mg φ ex H (ds.take n) (vs.take n)
  | _, _, 0, _ => .nil
  | _, _, n + 1, .nil => .nil
  | _, _, n + 1, .cons h r => .cons h (RepVs.take n r)
theorem RepVs.set : ∀ {ds : List D} {vs : List V} (n : Nat) {d : D} {v : V}, RepVs K mg φ ex H ds vs → RepV K mg φ ex H d v → RepVs K mg φ ex H (ds.set n d) (vs.set n v)
  | _, _, _, _, _, .nil, _ => .nil
  | _, _, 0, _, _, .cons _ r, q => .cons q r
  | _, _, n + 1, _, _, .cons h r, q => .cons h (RepVs.set n r q)
theorem RepVs.erase : ∀ {ds : List D} {vs : List V} (n : Nat), RepVs K mg φ ex H ds vs → RepVs K mg φ ex H (ds.eraseIdx n) (vs.eraseIdx n)
  | _, _, _, .nil => .nil
  | _, _, 0, .cons _ r => r
  | _, _, n + 1, .cons h r => .cons h (RepVs.erase n r)
theorem RepVs.rev : ∀ {ds : List D} {vs : List V}, RepVs K mg φ ex H ds vs → RepVs K mg φ ex H ds.reverse vs.reverse
  | _, _, .nil => .nil
  | _, _, .cons h r => by
    rw [List.reverse_cons, List.reverse_cons]
    exact RepVs.app (RepVs.rev r) (.cons h .nil)
theorem RepVs.init : ∀ {ds : List D} {vs : List V}, RepVs K mg φ ex H ds vs → RepVs K mg φ ex H ds.dropLast vs.dropLast := fun {ds vs} h => by
  rw [List.dropLast_eq_take, List.dropLast_eq_take, ← h.length]
  exact h.take _
/-- a list of ints, texts, truths -/
theorem RepVs.ofInts : ∀ {ds : List D} {ns : List Int} {vs : List V}, intsD ds = some ns → RepVs K mg φ ex H ds vs → vs = ns.map V.int
  | _, _, _, e, .nil => by
    cases e
    rfl
  | _, _, _, e, .cons h r => by
    cases h with
    | int i =>
      simp only [intsD, Option.map_eq_some_iff] at e
      obtain ⟨ns, e1, rfl⟩ := e
      rw [RepVs.ofInts e1 r]
      rfl
    | _ => cases e
theorem RepVs.ofStrs : ∀ {ds : List D} {ns : List Str} {vs : List V}, strsD ds = some ns → RepVs K mg φ ex H ds vs → vs = ns.map V.str
  | _, _, _, e, .nil => by
    cases e
    rfl
  | _, _, _, e, .cons h r => by
    cases h with
    | str i =>
      simp only [strsD, Option.map_eq_some_iff] at e
      obtain ⟨ns, e1, rfl⟩ := e
      rw [RepVs.ofStrs e1 r]
      rfl
    | _ => cases e
theorem RepVs.ofBls : ∀ {ds : List D} {ns : List Bool} {vs : List V}, blsD ds = some ns → RepVs K mg φ ex H ds vs → vs = ns.map V.bl
  | _, _, _, e, .nil => by
    cases e
    rfl
  | _, _, _, e, .cons h r => by
    cases h with
    | bl i =>
      simp only [blsD, Option.map_eq_some_iff] at e
      obtain ⟨ns, e1, rfl⟩ := e
      rw [RepVs.ofBls e1 r]
      rfl
    | _ => cases e
theorem RepVs.ints (ns : List Int) : RepVs K mg φ ex H (ns.map .int) (ns.map V.int) := by
  induction ns with
  | nil => exact .nil
  | cons n r ih => exact .cons (.int n) ih
theorem RepVs.strs' (ns : List Str) : RepVs K mg φ ex H (ns.map .str) (ns.map V.str) := by
  induction ns with
  | nil => exact .nil
  | cons n r ih => exact .cons (.str n) ih
/-- the value of data tells the data's scalar -/
theorem RepV.toInt {i : Int} {v : V} (h : RepV K mg φ ex H (.int i) v) : v = .int i := by cases h; rfl
theorem RepV.toBl {i : Bool} {v : V} (h : RepV K mg φ ex H (.bl i) v) : v = .bl i := by cases h; rfl
theorem RepV.toStr {i : Str} {v : V} (h : RepV K mg φ ex H (.str i) v) : v = .str i := by cases h; rfl
theorem RepV.toNon {v : V} (h : RepV K mg φ ex H .non v) : v = .non := by cases h; rfl

/-! ### dicts -/
theorem toKey_kV {k : D} {k' : Key} {v : V} (e : toKey k = some k') (h : RepV K mg φ ex H k v) : v = kV k' := by
  cases h <;> first
    | (cases e; rfl)
    | cases e
theorem toKey_rep {k : D} {k' : Key} (e : toKey k = some k') : RepV K mg φ ex H k (kV k') := by
  cases k <;> first
    | (cases e; first | exact .int _ | exact .str _)
    | cases e
theorem keq_key {a b : D} {a' b' : Key} (ea : toKey a = some a') (eb : toKey b = some b') : keq a b = decide (a' = b') := by
  cases a <;> cases b <;> first
    | (cases ea; cases eb; simp [keq])
    | (cases ea; done)
    | (cases eb; done)
theorem isKey_to {k : D} (h : isKey k = true) : ∃ k', toKey k = some k' := by
  cases k <;> first
    | exact ⟨_, rfl⟩
    | cases h
theorem RepK.get {k : D} {k' : Key} (ek : toKey k = some k') : ∀ {ds : List (D × D)} {vs : List (Key × V)}, RepK K mg φ ex H ds vs →
    (∀ d, dget ds k = some d → ∃ v, valV vs k' = some v ∧ RepV K mg φ ex H d v) ∧ (dhas ds k = (valV vs k').isSome) ∧ (dget ds k = none → valV vs k' = none)
  | _, _, .nil => ⟨fun d e => by simp [dget] at e, by simp [dhas, valV], fun _ => by simp [valV]⟩
  | _, _, .cons (k := j) (k' := j') (d := x) (v := y) (ds := ds) (vs := vs) e h r => by
    obtain ⟨h1, h2, h3⟩ := RepK.get ek r
    have hk := keq_key e ek
    by_cases z : j' = k'
    · have hk' : keq j k = true := by rw [hk]; exact decide_eq_true z
      rw [valV_pos (p := (j', y)) z]
      refine ⟨fun d q => ?_, ?_, fun q => ?_⟩
      · simp only [dget, List.find?_cons, hk', Option.map_some, Option.some.injEq] at q
        subst q
        exact ⟨_, rfl, h⟩
      · simp [dhas, hk']
      · simp [dget, List.find?_cons, hk'] at q
    · have hk' : keq j k = false := by rw [hk]; exact decide_eq_false z
      rw [valV_neg (p := (j', y)) z]
      refine ⟨fun d q => h1 d ?_, ?_, fun q => h3 ?_⟩
      · simpa [dget, List.find?_cons, hk'] using q
      · rw [← h2]
        simp [dhas, hk']
      · simpa [dget, List.find?_cons, hk'] using q
theorem RepK.app : ∀ {ds es : List (D × D)} {vs us : List (Key × V)}, RepK K mg φ ex H ds vs → RepK K mg φ ex H es us → RepK K mg φ ex H (ds ++ es) (vs ++ us)
  | _, _, _, _, .nil, s => s
  | _, _, _, _, .cons k h r, s => .cons k h (RepK.app r s)
theorem RepK.repl {k x : D} {k' : Key} {y : V} (ek : toKey k = some k') (hx : RepV K mg φ ex H x y) : ∀ {ds : List (D × D)} {vs : List (Key × V)}, RepK K mg φ ex H ds vs →
    RepK K mg φ ex H (ds.map fun p => if keq p.1 k = true then (p.1, x) else p) (vs.map fun p => if p.1 = k' then (p.1, y) else p)
  | _, _, .nil => .nil
  | _, _, .cons (k := j) (k' := j') (d := d) (v := v) e h r => by
    have ih := RepK.repl ek hx r
    rw [List.map_cons, List.map_cons]
    have hk := keq_key e ek
    by_cases z : j' = k'
    · have hk' : keq j k = true := by rw [hk]; exact decide_eq_true z
      rw [if_pos hk', if_pos z]
      exact .cons e hx ih
    · have hk' : ¬ keq j k = true := by rw [hk]; simpa using z
      rw [if_neg hk', if_neg z]
      exact .cons e h ih
theorem RepK.put {k x : D} {k' : Key} {y : V} (ek : toKey k = some k') (hx : RepV K mg φ ex H x y) {ds : List (D × D)} {vs : List (Key × V)} (r : RepK K mg φ ex H ds vs) :
    RepK K mg φ ex H (dput ds k x) (putK vs k' y) := by
  have h2 := (r.get ek).2.1
  have e2 : (vs.any fun p => decide (p.1 = k')) = dhas ds k := by rw [h2]; exact valV_any k' vs
  unfold dput putK
  by_cases z : dhas ds k = true
  · rw [if_pos z, if_pos (e2.trans z)]
    exact r.repl ek hx
  · rw [if_neg z, if_neg (fun q => z (e2.symm.trans q))]
    exact r.app (.cons ek hx .nil)
theorem RepK.keys : ∀ {ds : List (D × D)} {vs : List (Key × V)}, RepK K mg φ ex H ds vs → RepVs K mg φ ex H (ds.map (·.1)) (vs.map fun p => kV p.1)
  | _, _, .nil => .nil
  | _, _, .cons k _ r => .cons (toKey_rep k) (RepK.keys r)
theorem RepK.vals : ∀ {ds : List (D × D)} {vs : List (Key × V)}, RepK K mg φ ex H ds vs → RepVs K mg φ ex H (ds.map (·.2)) (vs.map fun p => p.2)
  | _, _, .nil => .nil
  | _, _, .cons _ h r => .cons h (RepK.vals r)
theorem RepK.at : ∀ {ds : List (D × D)} {vs : List (Key × V)} {i : Nat} {p : D × D}, RepK K mg φ ex H ds vs → ds[i]? = some p → ∃ q, vs[i]? = some q ∧ toKey p.1 = some q.1 ∧ RepV K mg φ ex H p.2 q.2
  | _, _, _, _, .nil, e => by simp at e
  | _, _, 0, _, .cons k h _, e => by
    simp only [List.getElem?_cons_zero, Option.some.injEq] at e
    subst e
    exact ⟨_, rfl, k, h⟩
  | _, _, i + 1, _, .cons _ _ r, e => by
    simp only [List.getElem?_cons_succ] at e
    obtain ⟨v, h1, h2⟩ := RepK.at r e
    exact ⟨v, by simpa using h1, h2⟩
end

/-! ### the state -/
def ownA (ρ : Env') (σ : L2.St) (a : Addr) : Prop := ∃ (i : Nat) (d : D), ρ[i]? = some (.ow d) ∧ σ[i]? = some (some (.ref a))
def exc (φ : List Addr) (out : Addr → Prop) (ρ : Env') (σ : L2.St) (a : Addr) : Prop := a ∈ φ ∨ out a ∨ ownA ρ σ a
/-- what stands at a: a list, a dict that may be written -/
def ObjD (K : PySem.W.Frag) (mg : Str → Option Value) (φ : List Addr) (ex : Addr → Prop) (H : Hp) (a : Addr) : D → Prop
  | .lst ds => ∃ vs, H a = some (.lst vs) ∧ RepVs K mg φ ex H ds vs
  | .dct kvs => ∃ ks, H a = some (.dK ks) ∧ RepK K mg φ ex H kvs ks
  | _ => False
def FldsR (K : PySem.W.Frag) (mg : Str → Option Value) (φ : List Addr) (ex : Addr → Prop) (H : Hp) : List (Str × D) → List (Str × V) → Prop := Paired fun p q => p.1 = q.1 ∧ RepV K mg φ ex H p.2 q.2
def ObjS (K : PySem.W.Frag) (mg : Str → Option Value) (φ : List Addr) (ex : Addr → Prop) (H : Hp) (a : Addr) : O → Prop
  | .da d => ObjD K mg φ ex H a d
  | .ins c fs => ∃ C dx gs, H a = some (.ins C dx gs) ∧ mg c = some (.ref C) ∧ FldsR K mg φ ex H fs gs
structure Rel (K : PySem.W.Frag) (mg : Str → Option Value) (φ : List Addr) (out : Addr → Prop) (ρ : Env') (S : Sto) (σ : L2.St) (H : Hp) : Prop where
  len : ρ.length = σ.length
  va : ∀ (i : Nat) (d : D), ρ[i]? = some (.va d) → ∃ v, σ[i]? = some (some v) ∧ RepV K mg φ (exc φ out ρ σ) H d v
  ow : ∀ (i : Nat) (d : D), ρ[i]? = some (.ow d) → ∃ a, σ[i]? = some (some (.ref a)) ∧ ObjD K mg φ (exc φ out ρ σ) H a d ∧ a ∉ φ ∧ ¬ out a
  owi : ∀ (i j : Nat) (a : Addr) (d e : D), ρ[i]? = some (.ow d) → ρ[j]? = some (.ow e) → σ[i]? = some (some (.ref a)) → σ[j]? = some (some (.ref a)) → i = j
  st : ∀ (n : Nat) (o : O), S[n]? = some o → ∃ a, φ[n]? = some a ∧ ObjS K mg φ (exc φ out ρ σ) H a o
  sl : S.length = φ.length
  nd : φ.Nodup
  no : ∀ a ∈ φ, ¬ out a
  ot : ∀ a, out a → H a ≠ none
section
variable {φ φ' φ2 : List Addr} {out out' : Addr → Prop} {ρ ρ' ρ2 : Env'} {S S' S2 : Sto} {σ σ' σ2 : L2.St} {H H' H2 : Hp}
theorem ObjD.mv {ex ex' : Addr → Prop} {a : Addr} {d : D} (m : Mv φ φ' ex ex' H H') (h : ObjD K mg φ ex H a d) (k : ∀ o, H a = some o → H' a = some o) : ObjD K mg φ' ex' H' a d := by
  cases d <;> first
    | exact h.elim
    | (obtain ⟨vs, e, r⟩ := h; exact ⟨vs, k _ e, r.mv m⟩)
theorem FldsR.mv {ex ex' : Addr → Prop} {fs : List (Str × D)} {gs : List (Str × V)} (m : Mv φ φ' ex ex' H H') (h : FldsR K mg φ ex H fs gs) : FldsR K mg φ' ex' H' fs gs := Paired.mapP h fun _ _ z => ⟨z.1, z.2.mv m⟩
theorem ObjS.mv {ex ex' : Addr → Prop} {a : Addr} {o : O} (m : Mv φ φ' ex ex' H H') (h : ObjS K mg φ ex H a o) (k : ∀ o, H a = some o → H' a = some o) : ObjS K mg φ' ex' H' a o := by
  cases o with
  | da d => exact ObjD.mv m h k
  | ins c fs =>
    obtain ⟨C, dx, gs, e, h1, h2⟩ := h
    exact ⟨C, dx, gs, k _ e, h1, h2.mv m⟩
theorem ObjD.some {ex : Addr → Prop} {a : Addr} {d : D} (h : ObjD K mg φ ex H a d) : H a ≠ none := by
  cases d <;> first
    | exact h.elim
    | (obtain ⟨vs, e, r⟩ := h; rw [e]; exact fun z => nomatch z)
theorem ObjS.some {ex : Addr → Prop} {a : Addr} {o : O} (h : ObjS K mg φ ex H a o) : H a ≠ none := by
  cases o with
  | da d => exact ObjD.some h
  | ins c fs =>
    obtain ⟨C, dx, gs, e, _⟩ := h
    rw [e]
    exact fun z => nomatch z
theorem Rel.phi (R : Rel K mg φ out ρ S σ H) {a : Addr} (h : a ∈ φ) : ∃ (n : Nat) (o : O), S[n]? = some o ∧ φ[n]? = some a ∧ ObjS K mg φ (exc φ out ρ σ) H a o := by
  obtain ⟨n, hn, e⟩ := List.mem_iff_getElem.mp h
  have hn' : n < S.length := by rw [R.sl]; exact hn
  obtain ⟨b, e2, h2⟩ := R.st n S[n] (List.getElem?_eq_getElem hn')
  have e3 : φ[n]? = some a := by rw [List.getElem?_eq_getElem hn, e]
  rw [e3] at e2
  cases e2
  exact ⟨n, _, List.getElem?_eq_getElem hn', e3, h2⟩
theorem Rel.ex_some (R : Rel K mg φ out ρ S σ H) {a : Addr} (h : exc φ out ρ σ a) : H a ≠ none := by
  rcases h with h | h | ⟨i, d, e1, e2⟩
  · obtain ⟨_, _, _, _, h⟩ := R.phi h
    exact h.some
  · exact R.ot a h
  · obtain ⟨b, e3, h, _⟩ := R.ow i d e1
    rw [e2] at e3
    cases e3
    exact h.some
theorem Rel.free (R : Rel K mg φ out ρ S σ H) {a : Addr} (h : H a = none) : ¬ exc φ out ρ σ a := fun z => R.ex_some z h

/-- a step of the state -/
structure Stp (φ : List Addr) (ρ : Env') (σ : L2.St) (H : Hp) (φ' : List Addr) (ρ' : Env') (σ' : L2.St) (H' : Hp) : Prop where
  pre : ∀ (n : Nat) (a : Addr), φ[n]? = some a → φ'[n]? = some a
  nw : ∀ a ∈ φ', a ∈ φ ∨ H a = none ∨ ownA ρ σ a
  fr : ∀ b o, H b = some o → b ∉ φ → ¬ ownA ρ σ b → H' b = some o
  on : ∀ b, ownA ρ' σ' b → ownA ρ σ b ∨ H b = none
  kp : ∀ b, H b ≠ none → H' b ≠ none
theorem Stp.refl : Stp φ ρ σ H φ ρ σ H := ⟨fun _ _ e => e, fun _ h => .inl h, fun _ _ e _ _ => e, fun _ h => .inl h, fun _ h => h⟩
theorem mem_get {a : Addr} (h : a ∈ φ) : ∃ n : Nat, φ[n]? = some a := by
  obtain ⟨n, hn, e⟩ := List.mem_iff_getElem.mp h
  exact ⟨n, by rw [List.getElem?_eq_getElem hn, e]⟩
theorem Stp.trans (a : Stp φ ρ σ H φ' ρ' σ' H') (b : Stp φ' ρ' σ' H' φ2 ρ2 σ2 H2) : Stp φ ρ σ H φ2 ρ2 σ2 H2 := by
  have back : ∀ c, H' c = none → H c = none := fun c hc => Classical.byContradiction fun z => a.kp c z hc
  refine ⟨fun n c e => b.pre n c (a.pre n c e), fun c hc => ?_, fun c o e h1 h2 => b.fr c o (a.fr c o e h1 h2) (fun z => ?_) (fun z => ?_), fun c hc => ?_, fun c hc => b.kp c (a.kp c hc)⟩
  · rcases b.nw c hc with h | h | h
    · exact a.nw c h
    · exact .inr (.inl (back c h))
    · exact (a.on c h).elim (fun z => .inr (.inr z)) fun z => .inr (.inl z)
  · rcases a.nw c z with z | z | z
    · exact h1 z
    · rw [e] at z
      cases z
    · exact h2 z
  · rcases a.on c z with z | z
    · exact h2 z
    · rw [e] at z
      cases z
  · rcases b.on c hc with h | h
    · exact a.on c h
    · exact .inr (back c h)

theorem Stp.mv (R : Rel K mg φ out ρ S σ H) (t : Stp φ ρ σ H φ' ρ' σ' H') (ho : ∀ a, out' a → out a ∨ H a = none) : Mv φ φ' (exc φ out ρ σ) (exc φ' out' ρ' σ') H H' := by
  refine ⟨t.pre, fun b o e n => t.fr b o e (fun z => n (.inl z)) (fun z => n (.inr (.inr z))), fun b z => ?_⟩
  rcases z with z | z | z
  · rcases t.nw b z with z | z | z
    · exact .inl (.inl z)
    · exact .inr z
    · exact .inl (.inr (.inr z))
  · exact (ho b z).imp (fun q => .inr (.inl q)) id
  · exact (t.on b z).imp (fun q => .inr (.inr q)) id
theorem exc.less (h : ∀ a, out' a → out a) : ∀ b, exc φ out' ρ σ b → exc φ out ρ σ b := fun b z => z.imp id fun z => z.imp (h b) id
theorem Rel.less (R : Rel K mg φ out ρ S σ H) (h : ∀ a, out' a → out a) : Rel K mg φ out' ρ S σ H := by
  have m : Mv φ φ (exc φ out ρ σ) (exc φ out' ρ σ) H H := .less (exc.less h)
  refine ⟨R.len, fun i d e => ?_, fun i d e => ?_, R.owi, fun n o e => ?_, R.sl, R.nd, fun a q z => R.no a q (h a z), fun a z => R.ot a (h a z)⟩
  · obtain ⟨v, e1, h1⟩ := R.va i d e
    exact ⟨v, e1, h1.mv m⟩
  · obtain ⟨a, e1, h1, h2, h3⟩ := R.ow i d e
    exact ⟨a, e1, h1.mv m fun _ q => q, h2, fun z => h3 (h a z)⟩
  · obtain ⟨a, e1, h1⟩ := R.st n o e
    exact ⟨a, e1, h1.mv m fun _ q => q⟩
/-- the operand's value -/
def ROp (K : PySem.W.Frag) (mg : Str → Option Value) (φ : List Addr) (out : Addr → Prop) (ρ : Env') (S : Sto) (σ : L2.St) (H H0 : Hp) (own0 : Addr → Prop) : Op → V → Prop
  | .fz d, v => RepV K mg φ (exc φ out ρ σ) H d v
  | .fr d, v => ∃ a, v = .ref a ∧ Rel K mg φ (fun b => out b ∨ b = a) ρ S σ H ∧ ObjD K mg φ (exc φ (fun b => out b ∨ b = a) ρ σ) H a d ∧ ¬ out a ∧ (H0 a = none ∨ own0 a)
  | .sl i, v => ∃ a d, ρ[i]? = some (.ow d) ∧ σ[i]? = some (some (.ref a)) ∧ v = .ref a
structure Post (K : PySem.W.Frag) (mg : Str → Option Value) (φ : List Addr) (out : Addr → Prop) (ρ : Env') (σ : L2.St) (H : Hp) (o : Op) (ρ' : Env') (S' : Sto) (v : V) (H' : Hp) (φ' : List Addr) : Prop where
  stp : Stp φ ρ σ H φ' ρ' σ H'
  rel : Rel K mg φ' out ρ' S' σ H'
  val : ROp K mg φ' out ρ' S' σ H' H (ownA ρ σ) o v
theorem ObjD.rep {ex ex' : Addr → Prop} {a : Addr} {d : D} (h : ObjD K mg φ ex H a d) (l : ∀ b, ex' b → ex b) (n : ¬ ex' a) : RepV K mg φ ex' H d (.ref a) := by
  have m : Mv φ φ ex ex' H H := .less l
  cases d <;> first
    | exact h.elim
    | (obtain ⟨vs, e, r⟩ := h
       first
         | exact .lst (.inl ⟨.inl e, n⟩) (r.mv m)
         | exact .dct (.inl e) n (r.mv m))
theorem ROp.toV {H0 : Hp} {own0 : Addr → Prop} (R : Rel K mg φ out ρ S σ H) {o : Op} {d : D} {v : V} (h : ROp K mg φ out ρ S σ H H0 own0 o v) (e : o.d = some d) : RepV K mg φ (exc φ out ρ σ) H d v := by
  cases o with
  | fz x =>
    cases e
    exact h
  | fr x =>
    cases e
    obtain ⟨a, rfl, R2, h2, h3, _⟩ := h
    refine h2.rep (exc.less fun b z => .inl z) fun z => ?_
    rcases z with z | z | ⟨i, d, e1, e2⟩
    · exact R2.no a z (.inr rfl)
    · exact h3 z
    · obtain ⟨b, e3, _, _, q⟩ := R2.ow i d e1
      rw [e2] at e3
      cases e3
      exact q (.inr rfl)
  | sl i => cases e
/-- an operand, later -/
def OpV (K : PySem.W.Frag) (mg : Str → Option Value) (φ : List Addr) (ex : Addr → Prop) (σ : L2.St) (H : Hp) : Op → V → Prop
  | .fz d, v => RepV K mg φ ex H d v
  | .fr d, v => RepV K mg φ ex H d v
  | .sl i, v => σ[i]? = some (some v)
theorem ROp.op {H0 : Hp} {own0 : Addr → Prop} (R : Rel K mg φ out ρ S σ H) {o : Op} {v : V} (h : ROp K mg φ out ρ S σ H H0 own0 o v) : OpV K mg φ (exc φ out ρ σ) σ H o v := by
  cases o with
  | fz x => exact h
  | fr x => exact ROp.toV R h rfl
  | sl i =>
    obtain ⟨a, d, e1, e2, rfl⟩ := h
    exact e2
theorem OpV.mv {ex ex' : Addr → Prop} (m : Mv φ φ' ex ex' H H') {o : Op} {v : V} (h : OpV K mg φ ex σ H o v) : OpV K mg φ' ex' σ H' o v := by
  cases o with
  | fz x => exact RepV.mv m h
  | fr x => exact RepV.mv m h
  | sl i => exact h
theorem OpV.toV {ex : Addr → Prop} {o : Op} {v : V} {d : D} (h : OpV K mg φ ex σ H o v) (e : o.d = some d) : RepV K mg φ ex H d v := by
  cases o with
  | fz x => cases e; exact h
  | fr x => cases e; exact h
  | sl i => cases e
/-- the content that is looked at -/
def CV (K : PySem.W.Frag) (mg : Str → Option Value) (φ : List Addr) (ex : Addr → Prop) (H : Hp) : D → V → Prop
  | .lst ds, v => ∃ a vs, v = .ref a ∧ SqL K H a vs ∧ RepVs K mg φ ex H ds vs
  | .dct kvs, v => ∃ a ks, v = .ref a ∧ Rd H a (.dK ks) ∧ RepK K mg φ ex H kvs ks
  | d, v => RepV K mg φ ex H d v
theorem RepV.cv {ex : Addr → Prop} {d : D} {v : V} (h : RepV K mg φ ex H d v) : CV K mg φ ex H d v := by
  cases h with
  | tup h r => exact .tup h r
  | lst h r => exact ⟨_, _, rfl, h.sq, r⟩
  | dct h n r => exact ⟨_, _, rfl, h, r⟩
  | non => exact .non
  | bl b => exact .bl b
  | int i => exact .int i
  | str x => exact .str x
  | ref h => exact .ref h
  | fn h => exact .fn h
theorem ObjD.cv {ex : Addr → Prop} {a : Addr} {d : D} (h : ObjD K mg φ ex H a d) : CV K mg φ ex H d (.ref a) := by
  cases d <;> first
    | exact h.elim
    | (obtain ⟨vs, e, r⟩ := h
       first
         | exact ⟨a, vs, rfl, .inl (.inl e), r⟩
         | exact ⟨a, vs, rfl, .inl e, r⟩)
theorem cont_ref {n : Nat} {d : D} (e : cont ρ S (.fz (.ref n)) = some d) : S[n]? = some (.da d) := by
  have e' : (match S[n]? with | some (.da d) => some d | _ => none) = some d := e
  cases h : S[n]? with
  | none => rw [h] at e'; cases e'
  | some o =>
    rw [h] at e'
    cases o with
    | da x => cases e'; rfl
    | ins c fs => cases e'
theorem cont_slot {i : Nat} {d : D} (e : cont ρ S (.sl i) = some d) : ρ[i]? = some (.ow d) := by
  have e' : (match ρ[i]? with | some (.ow d) => some d | _ => none) = some d := e
  cases h : ρ[i]? with
  | none => rw [h] at e'; cases e'
  | some o =>
    rw [h] at e'
    cases o with
    | ow x => cases e'; rfl
    | _ => cases e'
theorem setC_ref {n : Nat} {d : D} {q : Env' × Sto} (e : setC ρ S (.fz (.ref n)) d = some q) : (∃ y, S[n]? = some (.da y)) ∧ q = (ρ, S.set n (.da d)) := by
  have e' : (match S[n]? with | some (.da _) => some (ρ, S.set n (.da d)) | _ => none) = some q := e
  cases h : S[n]? with
  | none => rw [h] at e'; cases e'
  | some o =>
    rw [h] at e'
    cases o with
    | da x => cases e'; exact ⟨⟨x, rfl⟩, rfl⟩
    | ins c fs => cases e'
theorem setC_slot {i : Nat} {d : D} {q : Env' × Sto} (e : setC ρ S (.sl i) d = some q) : (∃ y, ρ[i]? = some (.ow y)) ∧ q = (ρ.set i (.ow d), S) := by
  have e' : (match ρ[i]? with | some (.ow _) => some (ρ.set i (.ow d), S) | _ => none) = some q := e
  cases h : ρ[i]? with
  | none => rw [h] at e'; cases e'
  | some o =>
    rw [h] at e'
    cases o with
    | ow x => cases e'; exact ⟨⟨x, rfl⟩, rfl⟩
    | _ => cases e'
theorem cont_ok (R : Rel K mg φ out ρ S σ H) {o : Op} {v : V} {d : D} (h : OpV K mg φ (exc φ out ρ σ) σ H o v) (e : cont ρ S o = some d) : CV K mg φ (exc φ out ρ σ) H d v := by
  cases o with
  | fz x =>
    cases x with
    | ref n =>
      obtain ⟨a, e1, h1⟩ := R.st n _ (cont_ref e)
      cases h with
      | ref q =>
        rw [e1] at q
        cases q
        exact ObjD.cv h1
    | _ => cases e; exact RepV.cv h
  | fr x => cases e; exact RepV.cv h
  | sl i =>
    obtain ⟨a, e1, h1, _⟩ := R.ow i _ (cont_slot e)
    have h' : σ[i]? = some (some v) := h
    rw [e1] at h'
    cases h'
    exact ObjD.cv h1
theorem look_ok (R : Rel K mg φ out ρ S σ H) {o : Op} {v : V} {d : D} (h : OpV K mg φ (exc φ out ρ σ) σ H o v) (e : look ρ S o = some d) : CV K mg φ (exc φ out ρ σ) H d v := by
  unfold look at e
  split at e
  · rename_i y hy
    cases e
    exact cont_ok R h hy
  · cases o with
    | fz x => cases e; exact RepV.cv h
    | fr x => cases e; exact RepV.cv h
    | sl i => cases e
/-- the content that is written -/
theorem cont_mut (R : Rel K mg φ out ρ S σ H) {o : Op} {v : V} {d d' : D} {q : Env' × Sto} (h : OpV K mg φ (exc φ out ρ σ) σ H o v) (e : cont ρ S o = some d) (e2 : setC ρ S o d' = some q) :
    ∃ a, v = .ref a ∧ ObjD K mg φ (exc φ out ρ σ) H a d ∧ (a ∈ φ ∨ ownA ρ σ a) := by
  cases o with
  | fz x =>
    cases x with
    | ref n =>
      obtain ⟨a, e1, h1⟩ := R.st n _ (cont_ref e)
      cases h with
      | ref z =>
        rw [e1] at z
        cases z
        exact ⟨a, rfl, h1, .inl (List.mem_of_getElem? e1)⟩
    | _ => cases e2
  | fr x => cases e2
  | sl i =>
    have hy := cont_slot e
    obtain ⟨a, e1, h1, _⟩ := R.ow i _ hy
    have h' : σ[i]? = some (some v) := h
    rw [e1] at h'
    cases h'
    exact ⟨a, rfl, h1, .inr ⟨i, _, hy, e1⟩⟩
theorem upd_mv {ex : Addr → Prop} {a : Addr} {ho : HO} (h : ex a) : Mv φ φ ex ex H (upd H a ho) :=
  ⟨fun _ _ e => e, fun b o e n => by rw [upd_ne (fun z : b = a => n (z ▸ h))]; exact e, fun _ z => .inl z⟩
theorem own_set {i : Nat} {d d' : D} (e : ρ[i]? = some (.ow d)) (a : Addr) : ownA (ρ.set i (.ow d')) σ a ↔ ownA ρ σ a := by
  have hi : i < ρ.length := (List.getElem?_eq_some_iff.mp e).1
  constructor
  · rintro ⟨j, x, e1, e2⟩
    by_cases z : i = j
    · subst z
      exact ⟨i, d, e, e2⟩
    · rw [List.getElem?_set_ne z] at e1
      exact ⟨j, x, e1, e2⟩
  · rintro ⟨j, x, e1, e2⟩
    by_cases z : i = j
    · subst z
      exact ⟨i, d', List.getElem?_set_self hi, e2⟩
    · exact ⟨j, x, by rw [List.getElem?_set_ne z]; exact e1, e2⟩
theorem setC_ok (R : Rel K mg φ out ρ S σ H) {o : Op} {a : Addr} {d' : D} {ρ' : Env'} {S' : Sto} {ho : HO} (h : OpV K mg φ (exc φ out ρ σ) σ H o (.ref a)) (e2 : setC ρ S o d' = some (ρ', S'))
    (new : ObjD K mg φ (exc φ out ρ σ) (upd H a ho) a d') : Rel K mg φ out ρ' S' σ (upd H a ho) ∧ Stp φ ρ σ H φ ρ' σ (upd H a ho) ∧ (∀ b, exc φ out ρ' σ b ↔ exc φ out ρ σ b) := by
  have base : ∀ (hx : a ∈ φ ∨ ownA ρ σ a) (ho' : ∀ b, ownA ρ' σ b ↔ ownA ρ σ b), Stp φ ρ σ H φ ρ' σ (upd H a ho) ∧ (∀ b, exc φ out ρ' σ b ↔ exc φ out ρ σ b) := fun hx ho' => by
    refine ⟨⟨fun _ _ e => e, fun _ z => .inl z, fun b o e n1 n2 => ?_, fun b z => .inl ((ho' b).mp z), fun b z => ?_⟩, fun b => ?_⟩
    · have nb : b ≠ a := fun z => by
        subst z
        exact hx.elim n1 n2
      rw [upd_ne nb]
      exact e
    · by_cases q : b = a
      · subst q
        rw [upd_same]
        exact fun z => nomatch z
      · rw [upd_ne q]
        exact z
    · unfold exc
      rw [ho' b]
  cases o with
  | fz x =>
    cases x with
    | ref n =>
      obtain ⟨⟨y, hy⟩, e3⟩ := setC_ref e2
      cases e3
      obtain ⟨b, e1, h1⟩ := R.st n _ hy
      cases h with
      | ref z =>
        rw [e1] at z
        cases z
        have hm : a ∈ φ := List.mem_of_getElem? e1
        have hx : exc φ out ρ σ a := .inl hm
        obtain ⟨b1, b2⟩ := base (.inl hm) fun _ => Iff.rfl
        have m : Mv φ φ (exc φ out ρ σ) (exc φ out ρ σ) H (upd H a ho) := upd_mv hx
        have hn : n < S.length := (List.getElem?_eq_some_iff.mp hy).1
        refine ⟨⟨R.len, fun i d e => ?_, fun i d e => ?_, R.owi, fun k ob e => ?_, by rw [List.length_set]; exact R.sl, R.nd, R.no, fun b z => ?_⟩, b1, b2⟩
        · obtain ⟨v, q1, q2⟩ := R.va i d e
          exact ⟨v, q1, q2.mv m⟩
        · obtain ⟨b, q1, q2, q3, q4⟩ := R.ow i d e
          exact ⟨b, q1, q2.mv m fun w hw => by rw [upd_ne (fun z : b = a => q3 (z ▸ hm))]; exact hw, q3, q4⟩
        · by_cases z : n = k
          · subst z
            rw [List.getElem?_set_self hn] at e
            cases e
            exact ⟨a, e1, new⟩
          · rw [List.getElem?_set_ne z] at e
            obtain ⟨b, q1, q2⟩ := R.st k ob e
            refine ⟨b, q1, q2.mv m fun w hw => ?_⟩
            rw [upd_ne (fun q : b = a => z ?_)]
            · exact hw
            · obtain ⟨l1, x1⟩ := List.getElem?_eq_some_iff.mp e1
              obtain ⟨l2, x2⟩ := List.getElem?_eq_some_iff.mp q1
              exact (List.getElem_inj R.nd).mp (x1.trans (q ▸ x2.symm))
        · exact b1.kp b (R.ot b z)
    | _ => cases e2
  | fr x => cases e2
  | sl i =>
    obtain ⟨⟨y, hy⟩, e3⟩ := setC_slot e2
    cases e3
    · obtain ⟨b, e1, h1, h2, h3⟩ := R.ow i _ hy
      have h' : σ[i]? = some (some (.ref a)) := h
      rw [e1] at h'
      cases h'
      have ho' := fun b => own_set (σ := σ) (d' := d') hy b
      have hx : exc φ out ρ σ a := .inr (.inr ⟨i, _, hy, e1⟩)
      obtain ⟨b1, b2⟩ := base (.inr ⟨i, _, hy, e1⟩) ho'
      have eq : exc φ out (ρ.set i (.ow d')) σ = exc φ out ρ σ := funext fun b => propext (b2 b)
      have m : Mv φ φ (exc φ out ρ σ) (exc φ out ρ σ) H (upd H a ho) := upd_mv hx
      have hi : i < ρ.length := (List.getElem?_eq_some_iff.mp hy).1
      have sub : ∀ {j : Nat} {d : D}, (ρ.set i (.ow d'))[j]? = some (.ow d) → ∃ x, ρ[j]? = some (.ow x) := fun {j d} e => by
        by_cases z : i = j
        · subst z
          exact ⟨_, hy⟩
        · rw [List.getElem?_set_ne z] at e
          exact ⟨_, e⟩
      refine ⟨⟨by rw [List.length_set]; exact R.len, fun j d e => ?_, fun j d e => ?_, fun j k b d f q1 q2 q3 q4 => ?_, fun k ob e => ?_, R.sl, R.nd, R.no, fun b z => b1.kp b (R.ot b z)⟩, b1, b2⟩
      · rw [eq]
        by_cases z : i = j
        · subst z
          rw [List.getElem?_set_self hi] at e
          cases e
        · rw [List.getElem?_set_ne z] at e
          obtain ⟨v, q1, q2⟩ := R.va j d e
          exact ⟨v, q1, q2.mv m⟩
      · rw [eq]
        by_cases z : i = j
        · subst z
          rw [List.getElem?_set_self hi] at e
          cases e
          exact ⟨a, e1, new, h2, h3⟩
        · rw [List.getElem?_set_ne z] at e
          obtain ⟨b, q1, q2, q3, q4⟩ := R.ow j d e
          refine ⟨b, q1, q2.mv m fun w hw => ?_, q3, q4⟩
          rw [upd_ne (fun q : b = a => z ?_)]
          · exact hw
          · exact R.owi i j a _ _ hy e e1 (q ▸ q1)
      · obtain ⟨x1, r1⟩ := sub q1
        obtain ⟨x2, r2⟩ := sub q2
        exact R.owi j k b _ _ r1 r2 q3 q4
      · rw [eq]
        obtain ⟨b, q1, q2⟩ := R.st k ob e
        refine ⟨b, q1, q2.mv m fun w hw => ?_⟩
        rw [upd_ne (fun q : b = a => h2 (q ▸ List.mem_of_getElem? q1))]
        exact hw
/-- a new object -/
theorem new_mv {ex : Addr → Prop} {p : Addr} {ho : HO} (h : H p = none) : Mv φ φ ex ex H (upd H p ho) :=
  ⟨fun _ _ e => e, fun b o e _ => by rw [upd_ne (fun z => by rw [z, h] at e; cases e)]; exact e, fun _ z => .inl z⟩
theorem new_stp {p : Addr} {ho : HO} (h : H p = none) : Stp φ ρ σ H φ ρ σ (upd H p ho) :=
  ⟨fun _ _ e => e, fun _ z => .inl z, fun b o e _ _ => by rw [upd_ne (fun z => by rw [z, h] at e; cases e)]; exact e, fun _ z => .inl z, fun b z => by
    by_cases q : b = p
    · subst q
      rw [upd_same]
      exact fun z => nomatch z
    · rw [upd_ne q]
      exact z⟩
theorem Rel.new (R : Rel K mg φ out ρ S σ H) {p : Addr} {ho : HO} (h : H p = none) : Rel K mg φ out ρ S σ (upd H p ho) := by
  have m : Mv φ φ (exc φ out ρ σ) (exc φ out ρ σ) H (upd H p ho) := new_mv h
  have k : ∀ (b : Addr) (o : HO), H b = some o → upd H p ho b = some o := fun b o e => by rw [upd_ne (fun z => by rw [z, h] at e; cases e)]; exact e
  refine ⟨R.len, fun i d e => ?_, fun i d e => ?_, R.owi, fun n o e => ?_, R.sl, R.nd, R.no, fun a z => (new_stp (φ := φ) (ρ := ρ) (σ := σ) h).kp a (R.ot a z)⟩
  · obtain ⟨v, e1, h1⟩ := R.va i d e
    exact ⟨v, e1, h1.mv m⟩
  · obtain ⟨a, e1, h1, h2⟩ := R.ow i d e
    exact ⟨a, e1, h1.mv m (k a), h2⟩
  · obtain ⟨a, e1, h1⟩ := R.st n o e
    exact ⟨a, e1, h1.mv m (k a)⟩
/-- .. that nobody holds yet -/
theorem Rel.newOut (R : Rel K mg φ out ρ S σ H) {p : Addr} {ho : HO} (h : H p = none) : Rel K mg φ (fun b => out b ∨ b = p) ρ S σ (upd H p ho) := by
  have R1 := R.new (ho := ho) h
  have np : ∀ b o, H b = some o → b ≠ p := fun b o e z => by rw [z, h] at e; cases e
  have m : Mv φ φ (exc φ out ρ σ) (exc φ (fun b => out b ∨ b = p) ρ σ) H (upd H p ho) := by
    refine ⟨fun _ _ e => e, fun b o e _ => by rw [upd_ne (np b o e)]; exact e, fun b z => ?_⟩
    rcases z with z | (z | z) | z
    · exact .inl (.inl z)
    · exact .inl (.inr (.inl z))
    · exact .inr (z ▸ h)
    · exact .inl (.inr (.inr z))
  have k : ∀ (b : Addr) (o : HO), H b = some o → upd H p ho b = some o := fun b o e => by rw [upd_ne (np b o e)]; exact e
  have ne : ∀ b, H b ≠ none → b ≠ p := fun b z q => z (q ▸ h)
  refine ⟨R.len, fun i d e => ?_, fun i d e => ?_, R.owi, fun n o e => ?_, R.sl, R.nd, fun a q z => ?_, fun a z => ?_⟩
  · obtain ⟨v, e1, h1⟩ := R.va i d e
    exact ⟨v, e1, h1.mv m⟩
  · obtain ⟨a, e1, h1, h2, h3⟩ := R.ow i d e
    exact ⟨a, e1, h1.mv m (k a), h2, fun z => z.elim h3 (ne a h1.some)⟩
  · obtain ⟨a, e1, h1⟩ := R.st n o e
    exact ⟨a, e1, h1.mv m (k a)⟩
  · rcases z with z | z
    · exact R.no a q z
    · exact ne a (R.ex_some (.inl q)) z
  · rcases z with z | z
    · exact R1.ot a z
    · rw [z, upd_same]
      exact fun z => nomatch z
end
end Sk

/-! Sk3: the operations, by values. -/
namespace Sk
open PySem PySem.Spec PyProof.Rows L2

/-! ### any rule that serves -/
def anyR (X : Cx) (f : Value → Value → Sem Value) : R2 := fun x y H Q => ∃ r : R2, OpR X f r ∧ r x y H Q
theorem op_any (X : Cx) (f : Value → Value → Sem Value) : OpR X f (anyR X f) := fun pins s σ H x y v u Q I rx ry ⟨_, o, q⟩ => o pins s σ H x y v u Q I rx ry q
def anyC (X : Cx) (f : Value) : List V → Hp → VK → Prop := fun xs H Q => ∃ r, CallR X f r ∧ r xs H Q
theorem call_any (X : Cx) (f : Value) : CallR X f (anyC X f) := fun pins s σ H xs us Q I r ⟨_, o, q⟩ => o pins s σ H xs us Q I r q
def anyI (X : Cx) : R2 := fun x y H Q => ∃ r : R2, IxR X r ∧ r x y H Q
theorem ix_any (X : Cx) : IxR X (anyI X) := fun a b pins s σ H x y v u Q I rx ry ⟨_, o, q⟩ hs => o a b pins s σ H x y v u Q I rx ry q hs
def anyS (X : Cx) : V → Option Int → Option Int → Hp → VK → Prop := fun x l h H Q => ∃ r, SlR X r ∧ r x l h H Q
theorem sl_any (X : Cx) : SlR X (anyS X) := fun pins s σ H x v vl vu lo hi sl Q I rx hs pl pu ⟨_, o, q⟩ => o pins s σ H x v vl vu lo hi sl Q I rx hs pl pu q

section
variable {X : Cx}
theorem ix_dict (hu : X.A.units + 1 < cLine) : IxR X (fun x y H Q => ∃ a v, x = .ref a ∧ DGet H a y (some v) ∧ Q v H) := by
  intro value slice pins s σ H x y v u Q I rx ry ⟨a, z, ex, g, q⟩ hs
  subst ex
  obtain rfl : v = Value.ref a := rx
  exact tail_any (dict_typeIs I g) PySem.F.slot_dict_getitem.lookup (d_getItem hu I g ry fun w' s3 I3 rw' => ⟨z, H, I3, rw', q⟩) hs
theorem op_inDict (hu : X.A.units + 1 < cLine) : OpR X (compareOp .In) (fun y x H Q => ∃ a o, x = .ref a ∧ DGet H a y o ∧ Q (.bl o.isSome) H) := by
  intro pins s σ H y x v u Q I ry rx ⟨a, o, ex, g, q⟩
  subst ex
  obtain rfl : u = Value.ref a := rx
  exact d_in hu I g ry fun s3 I3 => ⟨.bl o.isSome, H, I3, rfl, q⟩
theorem op_notInDict (hu : X.A.units + 1 < cLine) : OpR X (compareOp .NotIn) (fun y x H Q => ∃ a o, x = .ref a ∧ DGet H a y o ∧ Q (.bl (!o.isSome)) H) := by
  intro pins s σ H y x v u Q I ry rx ⟨a, o, ex, g, q⟩
  subst ex
  obtain rfl : u = Value.ref a := rx
  exact d_notIn hu I g ry fun s3 I3 => ⟨.bl (!o.isSome), H, I3, rfl, q⟩
/-- two lists, wherever they stand -/
theorem op_catS : OpR X (binaryOp .Add) (fun x y H Q => ∃ l b xs zs, x = .ref l ∧ y = .ref b ∧ SqL X.K H l xs ∧ SqL X.K H b zs ∧ xs.length + zs.length ≤ sizeLine ∧ ∀ p, H p = none → Q (.ref p) (upd H p (.lst (xs ++ zs)))) := by
  intro pins s σ H x y v u Q I rx ry ⟨l, b, xs, zs, ex, ey, hl, hb, hz, q⟩
  subst ex ey
  obtain rfl : v = Value.ref l := rx
  obtain rfl : u = Value.ref b := ry
  obtain ⟨its, r1, p1, _⟩ := I.list hl
  obtain ⟨jts, r2, p2, _⟩ := I.list hb
  obtain ⟨⟨c1, d1, t1, s1⟩, g1, k1, n1, e1⟩ := p1.isList
  obtain ⟨⟨c2, d2, t2, s2⟩, g2, k2, n2, e2⟩ := p2.isList
  simp only at k1 e1 k2 e2
  subst k1 e1 k2 e2
  have el : its.toArray ++ jts.toArray = (its ++ jts).toArray := by simp
  have l1 := r1.length
  have l2 := r2.length
  refine concat_meets ⟨_, g1, rfl⟩ ⟨_, g2, rfl⟩ noFill_list_add seq_list_add PySem.F.slot_list_add PySem.F.entry_list_add (PySem.F.args_list_add_2 _ _) (list_addW l b its.toArray jts.toArray n1 n2 d1 d2 s1 s2 (by rw [List.size_toArray, List.size_toArray]; omega)) ⟨g1, g2, ?_⟩
  rw [el]
  exact ⟨.ref _, _, I.lnew (t' := s.toks) (r1.append r2) (by rw [List.length_append]; omega), rfl, q _ I.fresh⟩
end

section
variable {X : Cx} {φ : List Addr} {ex : Addr → Prop} {H : Hp} {mg : Str → Option Value}
def opOf : BO → Operator
  | .add => .Add | .sub => .Sub | .mul => .Mult | .fdiv => .FloorDiv | .mod => .Mod | .pow => .Pow
def copOf : CO → CmpOp
  | .eq => .Eq | .ne => .NotEq | .lt => .Lt | .le => .LtE | .gt => .Gt | .ge => .GtE | .is => .Is | .isn => .IsNot | .inn => .In | .nin => .NotIn

/-- what an operation hands back, by the abstract heap -/
def Res (K : PySem.W.Frag) (mg : Str → Option Value) (φ : List Addr) (ex : Addr → Prop) (H : Hp) (r : Op) (Q : VK) : Prop :=
  match r with
  | .fz d => (∀ v, RepV K mg φ ex H d v → Q v H) ∧ (match d with
    | .tup ds => ∀ vs p, RepVs K mg φ ex H ds vs → H p = none → Q (.ref p) (upd H p (.tup vs))
    | _ => True)
  | .fr (.lst ds) => ∀ vs p, RepVs K mg φ ex H ds vs → H p = none → Q (.ref p) (upd H p (.lst vs))
  | .fr (.dct kvs) => ∀ ks p, RepK K mg φ ex H kvs ks → H p = none → Q (.ref p) (upd H p (.dK ks))
  | _ => False

/-! ### == -/
mutual
theorem RepV.dp {K : PySem.W.Frag} : ∀ {d : D} {v : V} {p : PyData}, RepV K mg φ ex H d v → toPy d = some p → Dp K H v p
  | _, _, _, .non, e => by cases e; exact .non
  | _, _, _, .bl b, e => by cases e; exact .bl b
  | _, _, _, .int b, e => by cases e; exact .int b
  | _, _, _, .str b, e => by cases e; exact .str b
  | _, _, _, .tup h r, e => by
    simp only [toPy, Option.map_eq_some_iff] at e
    obtain ⟨ps, e1, rfl⟩ := e
    exact .tup h.sq (RepVs.dp r e1)
  | _, _, _, .lst h r, e => by
    simp only [toPy, Option.map_eq_some_iff] at e
    obtain ⟨ps, e1, rfl⟩ := e
    exact .lst h.sq (RepVs.dp r e1)
  | _, _, _, .dct _ _ _, e => by simp [toPy] at e
  | _, _, _, .ref _, e => by simp [toPy] at e
  | _, _, _, .fn _, e => by simp [toPy] at e
theorem RepVs.dp {K : PySem.W.Frag} : ∀ {ds : List D} {vs : List V} {ps : List PyData}, RepVs K mg φ ex H ds vs → toPys ds = some ps → DpAll K H vs ps
  | _, _, _, .nil, e => by cases e; exact .nil
  | _, _, _, .cons (d := d) (ds := ds) h r, e => by
    simp only [toPys] at e
    cases e1 : toPy d with
    | none => rw [e1] at e; cases e
    | some x =>
      cases e2 : toPys ds with
      | none => rw [e1, e2] at e; cases e
      | some xs =>
        rw [e1, e2] at e
        cases e
        exact .cons (RepV.dp h e1) (RepVs.dp r e2)
end
theorem CV.dp {K : PySem.W.Frag} {d : D} {v : V} {p : PyData} (h : CV K mg φ ex H d v) (e : toPy d = some p) : Dp K H v p := by
  cases d with
  | tup ds => exact RepV.dp h e
  | lst ds =>
    obtain ⟨a, vs, rfl, hq, r⟩ := h
    simp only [toPy, Option.map_eq_some_iff] at e
    obtain ⟨ps, e1, rfl⟩ := e
    exact .lst hq (r.dp e1)
  | dct kvs => simp [toPy] at e
  | ref n => simp [toPy] at e
  | fn n => simp [toPy] at e
  | non => exact RepV.dp h e
  | bl b => exact RepV.dp h e
  | int i => exact RepV.dp h e
  | str x => exact RepV.dp h e

/-! dicts -/
inductive HitsV (K : PySem.W.Frag) (H : Hp) (ls : List (Key × V)) : List (Key × V) → Bool → Prop
  | nil : HitsV K H ls [] true
  | miss {k : Key} {v : V} {r : List (Key × V)} : valV ls k = none → HitsV K H ls ((k, v) :: r) false
  | hit {k : Key} {v y : V} {r : List (Key × V)} {p q : PyData} {b : Bool} : valV ls k = some y → Dp K H v p → Dp K H y q → SeqAt.shaped p = true → SeqAt.shaped q = true → HitsV K H ls r b → HitsV K H ls ((k, v) :: r) (PyData.eqv p q && b)
theorem HitsV.run {pins : List (Addr × Obj)} {σ : L2.St} {s : Shared} (I : Inv X pins σ H s) {A : Around} (hu : A.units + 64 < cLine) {ls : List (Key × V)} {vb : List (Key × Value)} (rb : KV ls vb) : ∀ {ks : List (Key × V)} {va : List (Key × Value)} {b : Bool}, HitsV X.K H ls ks b → KV ks va → PySem.W.KeqHits A s vb va b
  | _, _, _, .nil, .nil => .nil
  | _, _, _, .miss (k := k) hn, .cons (b := q) h t => by
    obtain ⟨k', v'⟩ := q
    obtain ⟨h1, h2⟩ := h
    have h1 : k = k' := h1
    subst h1
    have rr : RelO none (valueAt vb k) := by rw [← hn]; exact rb.val k
    exact .miss (RelO.none_of rr)
  | _, _, _, .hit (k := k) (y := yv) (p := p) (q := q) hy d1 d2 s1 s2 hr, .cons (b := w) h t => by
    obtain ⟨k', v'⟩ := w
    obtain ⟨h1, h2⟩ := h
    have h1 : k = k' := h1
    subst h1
    have rr : RelO (some yv) (valueAt vb k) := by rw [← hy]; exact rb.val k
    obtain ⟨y', hy', ry⟩ := rr.some_of
    obtain ⟨as, r1⟩ := Dp.reads I _ _ _ d1 h2
    obtain ⟨bs, r2⟩ := Dp.reads I _ _ _ d2 ry
    exact .hit hy' (SeqAt.eqAt_reads p q A s _ _ as bs r1 r2 (SeqAt.canLay_of_shaped s1) (SeqAt.canLay_of_shaped s2) (SeqAt.room_of_shaped s1 hu)) (HitsV.run I hu rb hr t)
theorem op_dctEq (neg : Bool) (hu : X.A.units + 65 < cLine) : OpR X (compareOp (if neg then .NotEq else .Eq)) (fun x y H Q => ∃ a b ks ls r, x = .ref a ∧ y = .ref b ∧ Rd H a (.dK ks) ∧ Rd H b (.dK ls) ∧ (ks.length = ls.length → HitsV X.K H ls ks r) ∧ Q (.bl (if neg then !(decide (ks.length = ls.length) && r) else decide (ks.length = ls.length) && r)) H) := by
  intro pins s σ H x y v u Q I rx ry h
  obtain ⟨a, b, ks, ls, r, rfl, rfl, ea, eb, hits, q⟩ := h
  obtain rfl : v = Value.ref a := rx
  obtain rfl : u = Value.ref b := ry
  obtain ⟨_, ya, va, ra, da⟩ := (show ObjOk X.prog X.w H s.heap a (.dK ks) from ea.ok I.hok)
  obtain ⟨_, yb, vb, rb, db⟩ := (show ObjOk X.prog X.w H s.heap b (.dK ls) from eb.ok I.hok)
  have la : ks.length = va.length := ra.length
  have lb : ls.length = vb.length := rb.length
  have el : (va.length == vb.length) = decide (ks.length = ls.length) := by rw [la, lb]; rfl
  cases neg with
  | false => exact PySem.W.keq_eq (knd := mixKind X.prog X.w) (r := r) ya yb da db (by omega) (fun z => HitsV.run I (A := X.A.in1) (by show X.A.units + 1 + 64 < cLine; omega) rb (hits (by omega)) ra) ⟨.bl _, H, I, rfl, by rw [el]; exact q⟩
  | true => exact PySem.W.keq_ne (knd := mixKind X.prog X.w) (r := r) ya yb da db (by omega) (fun z => HitsV.run I (A := X.A.in1) (by show X.A.units + 1 + 64 < cLine; omega) rb (hits (by omega)) ra) ⟨.bl _, H, I, rfl, by rw [el]; exact q⟩
theorem shD_dp {K : PySem.W.Frag} {d : D} {v : V} (h : RepV K mg φ ex H d v) (e : shD d = true) : ∃ p, toPy d = some p ∧ Dp K H v p ∧ SeqAt.shaped p = true := by
  unfold shD at e
  cases e1 : toPy d with
  | none => rw [e1] at e; cases e
  | some p => rw [e1] at e; exact ⟨p, rfl, h.dp e1, e⟩
theorem hits_of {K : PySem.W.Frag} {b : List (D × D)} {ls : List (Key × V)} (rb : RepK K mg φ ex H b ls) (sb : (b.all fun p => shD p.2) = true) : ∀ {a : List (D × D)} {ks : List (Key × V)}, RepK K mg φ ex H a ks → (a.all fun p => shD p.2) = true →
    HitsV K H ls ks (a.all fun p => match dget b p.1 with
      | some v => eqPy p.2 v
      | none => false)
  | _, _, .nil, _ => .nil
  | _, _, .cons (k := k) (d := d) hk h r, e => by
    rw [List.all_cons, Bool.and_eq_true] at e
    rw [List.all_cons]
    obtain ⟨g1, g2, g3⟩ := rb.get hk
    cases hg : dget b k with
    | none =>
      have := g3 hg
      simp only [hg, Bool.false_and]
      exact .miss this
    | some v =>
      obtain ⟨w, e1, e2⟩ := g1 v hg
      have hv : shD v = true := by
        have hm : ∃ p ∈ b, p.2 = v := by
          unfold dget at hg
          simp only [Option.map_eq_some_iff] at hg
          obtain ⟨p, hp, rfl⟩ := hg
          exact ⟨p, List.mem_of_find?_eq_some hp, rfl⟩
        obtain ⟨p, hp, rfl⟩ := hm
        exact List.all_eq_true.mp sb p hp
      obtain ⟨p1, t1, d1, s1⟩ := shD_dp h e.1
      obtain ⟨p2, t2, d2, s2⟩ := shD_dp e2 hv
      have : eqPy d v = PyData.eqv p1 p2 := by unfold eqPy; rw [t1, t2]
      simp only [hg]
      rw [this]
      exact .hit e1 d1 d2 s1 s2 (hits_of rb sb r e.2)
theorem dctEq_rule (neg : Bool) {x y : List (D × D)} {v u : V} {r : Bool} (hu : X.A.units + 65 < cLine) (ha : CV X.K mg φ ex H (.dct x) v) (hb : CV X.K mg φ ex H (.dct y) u) (e : dctEq x y = some r) (Q : VK) (q : Q (.bl (if neg then !r else r)) H) :
    anyR X (compareOp (if neg then .NotEq else .Eq)) v u H Q := by
  unfold dctEq at e
  split at e
  · rename_i hs
    rw [Bool.and_eq_true] at hs
    cases e
    obtain ⟨a, ks, rfl, h1, r1⟩ := ha
    obtain ⟨b, ls, rfl, h2, r2⟩ := hb
    exact ⟨_, op_dctEq neg hu, a, b, ks, ls, _, rfl, rfl, h1, h2, fun _ => hits_of r2 hs.2 r1 hs.1, by rw [← r1.length, ← r2.length]; exact q⟩
  · cases e
theorem deq_rule (neg : Bool) {a b : D} {v u : V} {r : Bool} (hu : X.A.units + 65 < cLine) (ha : CV X.K mg φ ex H a v) (hb : CV X.K mg φ ex H b u) (e : deq a b = some r) (Q : VK) (q : Q (.bl (if neg then !r else r)) H) :
    anyR X (compareOp (if neg then .NotEq else .Eq)) v u H Q := by
  have gen : ∀ x y, toPy a = some x → toPy b = some y → SeqAt.shaped x = true → SeqAt.shaped y = true → r = PyData.eqv x y → anyR X (compareOp (if neg then .NotEq else .Eq)) v u H Q := fun x y e1 e2 s1 s2 er => by
    subst er
    cases neg with
    | false => exact ⟨_, op_eqD (by omega), x, y, ha.dp e1, hb.dp e2, s1, s2, q⟩
    | true => exact ⟨_, op_neD (by omega), x, y, ha.dp e1, hb.dp e2, s1, s2, q⟩
  have flat : ∀ x y : V, v = x → u = y → scal x y = true → decide (x = y) = r → anyR X (compareOp (if neg then .NotEq else .Eq)) v u H Q := fun x y e1 e2 s er => by
    subst e1 e2 er
    cases neg with
    | false => exact ⟨_, op_eq, s, q⟩
    | true => exact ⟨_, op_ne, s, q⟩
  have rest : (match toPy a, toPy b with
    | some x, some y => if SeqAt.shaped x = true ∧ SeqAt.shaped y = true then some (PyData.eqv x y) else none
    | _, _ => none) = some r → anyR X (compareOp (if neg then .NotEq else .Eq)) v u H Q := fun e => by
    cases e1 : toPy a with
    | none => rw [e1] at e; cases e
    | some x =>
      cases e2 : toPy b with
      | none => rw [e1, e2] at e; cases e
      | some y =>
        rw [e1, e2] at e
        dsimp only at e
        split at e
        · rename_i hs
          exact gen x y e1 e2 hs.1 hs.2 (Option.some.inj e).symm
        · cases e
  unfold deq at e
  split at e
  · cases e
    rename_i i j
    exact flat _ _ (RepV.toInt ha) (RepV.toInt hb) rfl (by simp)
  · cases e
    rename_i i j
    exact flat _ _ (RepV.toStr ha) (RepV.toStr hb) rfl (by simp)
  · cases e
    rename_i i j
    exact flat _ _ (RepV.toBl ha) (RepV.toBl hb) rfl (by simp)
  · cases e
    exact flat _ _ (RepV.toNon ha) (RepV.toNon hb) rfl (by simp)
  · exact dctEq_rule neg hu ha hb e Q q
  · exact rest e

/-! ### + - * // % ** -/
theorem tup_inv {K : PySem.W.Frag} {ds : List D} {v : V} (h : RepV K mg φ ex H (.tup ds) v) : ∃ a vs, v = .ref a ∧ FzT K ex H a vs ∧ RepVs K mg φ ex H ds vs := by
  cases h with
  | tup h r => exact ⟨_, _, rfl, h, r⟩
theorem bop_rule {o : BO} {a b : D} {v u : V} {r : Op} {Q : VK} (ha : CV X.K mg φ ex H a v) (hb : CV X.K mg φ ex H b u) (e : bopD o a b = some r) (q : Res X.K mg φ ex H r Q) :
    anyR X (binaryOp (opOf o)) v u H Q := by
  unfold bopD at e
  split at e
  · cases e
    exact ⟨_, op_add, _, _, RepV.toInt ha, RepV.toInt hb, q.1 _ (.int _)⟩
  · cases e
    exact ⟨_, op_sub, _, _, RepV.toInt ha, RepV.toInt hb, q.1 _ (.int _)⟩
  · split at e
    · rename_i hm
      cases e
      rcases hm with hm | hm
      · exact ⟨_, op_mul, _, _, RepV.toInt ha, RepV.toInt hb, hm, q.1 _ (.int _)⟩
      · exact ⟨_, op_mulW, _, _, RepV.toInt ha, RepV.toInt hb, hm, q.1 _ (.int _)⟩
    · cases e
  · split at e
    · rename_i hm
      cases e
      exact ⟨_, op_fdivW, _, _, RepV.toInt ha, RepV.toInt hb, hm, q.1 _ (.int _)⟩
    · cases e
  · split at e
    · rename_i hm
      cases e
      exact ⟨_, op_mod, _, _, RepV.toInt ha, RepV.toInt hb, hm, q.1 _ (.int _)⟩
    · cases e
  · split at e
    · rename_i hm
      cases e
      exact ⟨_, op_pow, _, _, RepV.toInt ha, RepV.toInt hb, hm, q.1 _ (.int _)⟩
    · cases e
  · split at e
    · rename_i hm
      cases e
      exact ⟨_, op_add_str, _, _, RepV.toStr ha, RepV.toStr hb, hm, q.1 _ (.str _)⟩
    · cases e
  · split at e
    · rename_i hm
      cases e
      obtain ⟨l, vs, rfl, h1, r1⟩ := ha
      obtain ⟨m, us, rfl, h2, r2⟩ := hb
      exact ⟨_, op_catS, l, m, vs, us, rfl, rfl, h1, h2, by rw [← r1.length, ← r2.length]; exact hm, fun p hp => q _ p (r1.app r2) hp⟩
    · cases e
  · split at e
    · rename_i hm
      cases e
      obtain ⟨l, vs, rfl, h1, r1⟩ := tup_inv ha
      obtain ⟨m, us, rfl, h2, r2⟩ := tup_inv hb
      refine ⟨_, op_catA, l, m, vs, us, rfl, rfl, h1.sq, h2.sq, by rw [← r1.length, ← r2.length]; exact hm, fun z => q.1 _ ?_, fun _ z => q.1 _ ?_, fun _ _ p hp => q.2 _ p (r1.app r2) hp⟩
      · subst z
        cases r1
        exact .tup h2 r2
      · subst z
        cases r2
        rw [List.append_nil]
        exact .tup h1 r1
    · cases e
  · cases e

/-! ### comparisons -/
theorem flat_eqV {K : PySem.W.Frag} {x y : D} {v u : V} (hx : RepV K mg φ ex H x v) (hy : RepV K mg φ ex H y u) (fx : flatD x = true) (fy : flatD y = true) : flatV v = true ∧ flatV u = true ∧ eqV v u = feq x y := by
  cases hx <;> first
    | (cases fx; done)
    | (cases hy <;> first
        | (cases fy; done)
        | exact ⟨rfl, rfl, rfl⟩)
theorem mem_flat {K : PySem.W.Frag} {x : D} {v : V} (hx : RepV K mg φ ex H x v) (fx : flatD x = true) : ∀ {ds : List D} {vs : List V}, RepVs K mg φ ex H ds vs → ds.all flatD = true →
    vs.all flatV = true ∧ inV v vs = ds.any fun y => feq y x
  | _, _, .nil, _ => ⟨rfl, rfl⟩
  | _, _, .cons h r, e => by
    rw [List.all_cons, Bool.and_eq_true] at e
    obtain ⟨h1, h2⟩ := mem_flat hx fx r e.2
    obtain ⟨k1, k2, k3⟩ := flat_eqV h hx e.1 fx
    refine ⟨by rw [List.all_cons, k1, h1]; rfl, ?_⟩
    unfold inV at h2 ⊢
    rw [List.any_cons, List.any_cons, k3, h2]
theorem flat_flatV {K : PySem.W.Frag} {x : D} {v : V} (hx : RepV K mg φ ex H x v) (fx : flatD x = true) : flatV v = true := by
  cases hx <;> first
    | rfl
    | cases fx
theorem op_inTupD (neg : Bool) (hu : X.A.units + 65 < cLine) : OpR X (compareOp (if neg then .NotIn else .In)) (fun x y H Q => ∃ d ds, Dp X.K H x d ∧ Dp X.K H y (.tuple ds) ∧ SeqAt.shaped d = true ∧ SeqAt.shaped (.list ds) = true ∧ Q (.bl (if neg then !ds.any fun z => PyData.eqv z d else ds.any fun z => PyData.eqv z d)) H) := by
  intro pins s σ H x y v u Q I rx ry ⟨d, ds, hd, he, sd, se, q⟩
  obtain ⟨as, r1⟩ := Dp.reads I d x v hd rx
  obtain ⟨bs, r2⟩ := Dp.reads I (.tuple ds) y u he ry
  have hc : PyData.canLay0 (.tuple ds) = true := SeqAt.canLay_of_shaped (d := .list ds) se
  cases neg with
  | false => exact SeqAt.in_tuple_reads r2 r1 hc (SeqAt.canLay_of_shaped sd) (room_in_shaped sd hu) ⟨.bl _, H, I, rfl, q⟩
  | true => exact SeqAt.notIn_tuple_reads r2 r1 hc (SeqAt.canLay_of_shaped sd) (room_in_shaped sd hu) ⟨.bl _, H, I, rfl, q⟩
theorem pyIn_rule (neg : Bool) {x : D} {v u : V} {ds : List D} {r : Bool} {Q : VK} (hu : X.A.units + 65 < cLine) (hx : RepV X.K mg φ ex H x v ∨ ∀ p, toPy x = some p → Dp X.K H v p) (hx2 : flatD x = true → RepV X.K mg φ ex H x v)
    (a : Addr) (vs : List V) (eu : u = .ref a) (hs : SqL X.K H a vs ∨ SqT X.K H a vs) (rs : RepVs X.K mg φ ex H ds vs) (e : pyIn x ds = some r) (q : Q (.bl (if neg then !r else r)) H) :
    anyR X (compareOp (if neg then .NotIn else .In)) v u H Q := by
  have hdp : ∀ p, toPy x = some p → Dp X.K H v p := fun p ep => hx.elim (fun h => h.dp ep) fun h => h p ep
  subst eu
  unfold pyIn at e
  cases em : memD x ds with
  | some b =>
    rw [em] at e
    cases e
    unfold memD at em
    split at em
    · rename_i hf
      rw [Bool.and_eq_true] at hf
      cases em
      obtain ⟨h1, h2⟩ := mem_flat (hx2 hf.1) hf.1 rs hf.2
      have hv := flat_flatV (hx2 hf.1) hf.1
      cases neg with
      | false => exact ⟨_, op_in_seq, a, vs, rfl, hs, hv, h1, by rw [h2]; exact q⟩
      | true => exact ⟨_, op_notIn_seq, a, vs, rfl, hs, hv, h1, by rw [h2]; exact q⟩
    · cases em
  | none =>
    rw [em] at e
    dsimp only at e
    cases e1 : toPy x with
    | none => rw [e1] at e; cases e
    | some p =>
      cases e2 : toPys ds with
      | none => rw [e1, e2] at e; cases e
      | some ps =>
        rw [e1, e2] at e
        dsimp only at e
        split at e
        · rename_i hc
          cases e
          rcases hs with hs | hs
          · cases neg with
            | false => exact ⟨_, op_inD hu, p, ps, hdp p e1, .lst hs (rs.dp e2), hc.1, hc.2, q⟩
            | true => exact ⟨_, op_notInD hu, p, ps, hdp p e1, .lst hs (rs.dp e2), hc.1, hc.2, q⟩
          · exact ⟨_, op_inTupD neg hu, p, ps, hdp p e1, .tup hs (rs.dp e2), hc.1, hc.2, q⟩
        · cases e
theorem CV.flat {K : PySem.W.Frag} {x : D} {v : V} (h : CV K mg φ ex H x v) (f : flatD x = true) : RepV K mg φ ex H x v := by
  cases x <;> first
    | exact h
    | cases f
theorem CV.key {K : PySem.W.Frag} {x : D} {v : V} (h : CV K mg φ ex H x v) (f : isKey x = true) : RepV K mg φ ex H x v := by
  cases x <;> first
    | exact h
    | cases f
theorem in_rule (neg : Bool) {x y : D} {v u : V} {r : Bool} {Q : VK} (hu : X.A.units + 65 < cLine) (hx : CV X.K mg φ ex H x v) (hy : CV X.K mg φ ex H y u) (e : inD x y = some r) (q : Q (.bl (if neg then !r else r)) H) :
    anyR X (compareOp (if neg then .NotIn else .In)) v u H Q := by
  unfold inD at e
  split at e
  · obtain ⟨a, vs, rfl, h1, r1⟩ := hy
    exact pyIn_rule neg hu (.inr fun p ep => hx.dp ep) hx.flat a vs rfl (.inl h1) r1 e q
  · obtain ⟨a, vs, rfl, h1, r1⟩ := tup_inv hy
    exact pyIn_rule neg hu (.inr fun p ep => hx.dp ep) hx.flat a vs rfl (.inr h1.sq) r1 e q
  · split at e
    · rename_i hk
      cases e
      obtain ⟨a, ks, rfl, h1, r1⟩ := hy
      obtain ⟨k', ek⟩ := isKey_to hk
      have hv := toKey_kV ek (hx.key hk)
      have h2 := (r1.get ek).2.1
      have g : DGet H a v (valV ks k') := .inl ⟨ks, k', h1, hv, rfl⟩
      cases neg with
      | false => exact ⟨_, op_inDict (by omega), a, _, rfl, g, by rw [← h2]; exact q⟩
      | true => exact ⟨_, op_notInDict (by omega), a, _, rfl, g, by rw [← h2]; exact q⟩
    · cases e
  · split at e
    · rename_i z _ y
      split at e
      · rename_i c hc
        cases e
        have hv := RepV.toStr hx
        have hz := RepV.toStr hy
        have hy2 : y = ⟨#[c]⟩ := by
          obtain ⟨cps⟩ := y
          have : cps = [c].toArray := by rw [← hc]
          rw [this]
        rw [hy2] at hv
        cases neg with
        | false => exact ⟨_, op_in_sign, c, z, hv, hz, q⟩
        | true => exact ⟨_, op_notIn_sign, c, z, hv, hz, q⟩
      · cases e
    · cases e
  · cases e
theorem ne_non {K : PySem.W.Frag} {a : D} {v : V} (h : CV K mg φ ex H a v) : decide (v = .non) = isNon a := by
  cases a with
  | lst ds => obtain ⟨a, vs, rfl, _⟩ := h; rfl
  | dct ds => obtain ⟨a, vs, rfl, _⟩ := h; rfl
  | non => cases RepV.toNon h; rfl
  | bl b => cases RepV.toBl h; rfl
  | int i => cases RepV.toInt h; rfl
  | str x => cases RepV.toStr h; rfl
  | tup ds => obtain ⟨a, vs, rfl, _⟩ := tup_inv h; rfl
  | ref n => cases h; rfl
  | fn n => cases h; rfl
theorem cmp_rule {o : CO} {a b : D} {v u : V} {r : Bool} {Q : VK} (hu : X.A.units + 65 < cLine) (ha : CV X.K mg φ ex H a v) (hb : CV X.K mg φ ex H b u) (e : cmpD o a b = some r) (q : Q (.bl r) H) :
    anyR X (compareOp (copOf o)) v u H Q := by
  unfold cmpD at e
  split at e
  · exact deq_rule false hu ha hb e Q q
  · simp only [Option.map_eq_some_iff] at e
    obtain ⟨r', e, rfl⟩ := e
    exact deq_rule true hu ha hb e Q q
  · cases e
    exact ⟨_, op_lt, _, _, RepV.toInt ha, RepV.toInt hb, q⟩
  · cases e
    exact ⟨_, op_le, _, _, RepV.toInt ha, RepV.toInt hb, q⟩
  · cases e
    exact ⟨_, op_gt, _, _, RepV.toInt ha, RepV.toInt hb, q⟩
  · cases e
    exact ⟨_, op_ge, _, _, RepV.toInt ha, RepV.toInt hb, q⟩
  · cases e
    refine ⟨_, op_isN, RepV.toNon hb, ?_⟩
    rw [ne_non ha]
    exact q
  · cases e
    refine ⟨_, op_notN, RepV.toNon hb, ?_⟩
    rw [ne_non ha]
    exact q
  · exact in_rule false hu ha hb e q
  · simp only [Option.map_eq_some_iff] at e
    obtain ⟨r', e, rfl⟩ := e
    exact in_rule true hu ha hb e q
  · cases e

/-! ### items, slices -/
theorem atI_rep {K : PySem.W.Frag} {ds : List D} {vs : List V} {i : Int} {r : D} (h : RepVs K mg φ ex H ds vs) (e : atI ds i = some r) : ∃ w, atI vs i = some w ∧ RepV K mg φ ex H r w := by
  unfold atI at e ⊢
  rw [← h.length]
  cases q : ixN ds.length i with
  | none => rw [q] at e; cases e
  | some j =>
    rw [q] at e
    exact h.get e
theorem sub_rule {a k : D} {v u : V} {r : D} {Q : VK} (hu : X.A.units + 1 < cLine) (ha : CV X.K mg φ ex H a v) (hk : RepV X.K mg φ ex H k u) (e : subD a k = some r) (q : ∀ w, RepV X.K mg φ ex H r w → Q w H) : anyI X v u H Q := by
  unfold subD at e
  split at e
  · obtain ⟨p, vs, rfl, h1, r1⟩ := tup_inv ha
    obtain ⟨w, e1, e2⟩ := atI_rep r1 e
    exact ⟨_, ix_tup, p, vs, _, w, rfl, hk.toInt, h1.sq, e1, q w e2⟩
  · obtain ⟨p, vs, rfl, h1, r1⟩ := ha
    obtain ⟨w, e1, e2⟩ := atI_rep r1 e
    exact ⟨_, ix_list, p, vs, _, w, rfl, hk.toInt, h1, e1, q w e2⟩
  · split at e
    · rename_i hz
      simp only [Option.map_eq_some_iff] at e
      obtain ⟨c, e1, rfl⟩ := e
      exact ⟨_, ix_str, _, _, c, RepV.toStr ha, hk.toInt, hz, e1, q _ (.str _)⟩
    · cases e
  · split at e
    · rename_i hz
      obtain ⟨p, ks, rfl, h1, r1⟩ := ha
      obtain ⟨k', ek⟩ := isKey_to hz
      obtain ⟨w, e1, e2⟩ := (r1.get ek).1 r e
      exact ⟨_, ix_dict hu, p, w, rfl, .inl ⟨ks, k', h1, toKey_kV ek hk, e1.symm⟩, q w e2⟩
    · cases e
  · cases e
theorem cut_rep {K : PySem.W.Frag} {ds : List D} {vs : List V} {lo hi : Option Int} (h : RepVs K mg φ ex H ds vs) : RepVs K mg φ ex H (cutD ds lo hi) (cutV vs lo hi) := by
  unfold cutD cutV
  rw [h.length]
  exact (h.drop _).take _
theorem cut_all {ds : List D} {lo hi : Option Int} (h : HT.sIx ds.length 0 lo = 0 ∧ HT.sIx ds.length ds.length hi = ds.length) : cutD ds lo hi = ds := by
  unfold cutD
  rw [h.1, h.2]
  simp
theorem slc_rule {a : D} {v : V} {lo hi : Option Int} {r : Op} {Q : VK} (ha : CV X.K mg φ ex H a v) (e : slcD a lo hi = some r) (q : Res X.K mg φ ex H r Q) : anyS X v lo hi H Q := by
  unfold slcD at e
  split at e
  · split at e
    · rename_i hz
      cases e
      exact ⟨_, sl_str, _, RepV.toStr ha, hz, q.1 _ (.str _)⟩
    · cases e
  · cases e
    obtain ⟨p, vs, rfl, h1, r1⟩ := ha
    exact ⟨_, sl_list, p, vs, rfl, h1, fun p hp => q _ p (cut_rep r1) hp⟩
  · cases e
    obtain ⟨p, vs, rfl, h1, r1⟩ := tup_inv ha
    refine ⟨_, sl_tupA, p, vs, rfl, h1.sq, fun z => q.1 _ ?_, fun z p hp => q.2 _ p (cut_rep r1) hp⟩
    rw [← r1.length] at z
    rw [cut_all z]
    exact ha
  · cases e

/-! ### built-in functions -/
theorem isort_eq {ns ns' : List Int} (hp : ns'.Perm ns) (hs : ns'.Pairwise (· ≤ ·)) : ns' = isort ns := by
  have h1 : (isort ns).Perm ns := List.mergeSort_perm ns _
  have h2 : (isort ns).Pairwise (· ≤ ·) := by
    have := List.pairwise_mergeSort (le := fun a b : Int => decide (a ≤ b)) (fun a b c h1 h2 => by simp at *; omega) (fun a b => by simp; omega) ns
    exact this.imp fun h => by simpa using h
  exact List.Perm.eq_of_pairwise (fun x y _ _ a b => Int.le_antisymm a b) hs h2 (hp.trans h1.symm)
theorem minI_mem : ∀ (n : Int) (r : List Int), minI (n :: r) ∈ n :: r ∧ ∀ y ∈ n :: r, minI (n :: r) ≤ y
  | n, [] => ⟨by simp [minI], fun y hy => by simp only [List.mem_singleton] at hy; rw [hy]; exact Int.le_refl _⟩
  | n, m :: r => by
    obtain ⟨h1, h2⟩ := minI_mem m r
    have e : minI (n :: m :: r) = min n (minI (m :: r)) := rfl
    refine ⟨?_, fun y hy => ?_⟩
    · rw [e]
      by_cases z : n ≤ minI (m :: r)
      · rw [Int.min_eq_left z]
        exact List.mem_cons_self
      · rw [Int.min_eq_right (by omega)]
        exact List.mem_cons_of_mem _ h1
    · rw [e]
      rcases List.mem_cons.mp hy with z | z
      · rw [z]; omega
      · have := h2 y z; omega
theorem maxI_mem : ∀ (n : Int) (r : List Int), maxI (n :: r) ∈ n :: r ∧ ∀ y ∈ n :: r, y ≤ maxI (n :: r)
  | n, [] => ⟨by simp [maxI], fun y hy => by simp only [List.mem_singleton] at hy; rw [hy]; exact Int.le_refl _⟩
  | n, m :: r => by
    obtain ⟨h1, h2⟩ := maxI_mem m r
    have e : maxI (n :: m :: r) = max n (maxI (m :: r)) := rfl
    refine ⟨?_, fun y hy => ?_⟩
    · rw [e]
      by_cases z : maxI (m :: r) ≤ n
      · rw [Int.max_eq_left z]
        exact List.mem_cons_self
      · rw [Int.max_eq_right (by omega)]
        exact List.mem_cons_of_mem _ h1
    · rw [e]
      rcases List.mem_cons.mp hy with z | z
      · rw [z]; omega
      · have := h2 y z; omega
/-- a built-in's value, by the function -/
def bfVal : BF → Option Value
  | .len => some (.builtin "len") | .list => some (.type "list") | .tuple => some (.type "tuple") | .dict => some (.type "dict") | .sum => some (.builtin "sum") | .min => some (.builtin "min") | .max => some (.builtin "max")
  | .any => some (.builtin "any") | .all => some (.builtin "all") | .sorted => some (.builtin "sorted") | .int => some (.type "int") | .abs => some (.builtin "abs") | _ => none
theorem call_lenD' {X : Cx} : CallR X (.builtin "len") (fun xs H Q => ∃ d kvs, xs = [.ref d] ∧ Rd H d (.dK kvs) ∧ Q (.int kvs.length) H) := by
  intro pins s σ H xs us Q I r ⟨d, kvs, ex, hd, q⟩
  subst ex
  obtain ⟨u, rfl, ru⟩ := vals1 r
  obtain rfl : u = Value.ref d := ru
  exact d_len I hd fun t s' I' => ⟨.int kvs.length, H, I', ⟨t, rfl⟩, q⟩
theorem bf_rule {f : BF} {a : D} {v : V} {r : Op} {Q : VK} {fv : Value} (hc : X.calm = true) (hf : bfVal f = some fv) (ha : CV X.K mg φ ex H a v) (e : bfD f a = some r) (q : Res X.K mg φ ex H r Q) : anyC X fv [v] H Q := by
  unfold bfD at e
  split at e
  · cases hf
    simp only [Option.map_eq_some_iff] at e
    obtain ⟨n, e1, rfl⟩ := e
    have qq := q.1 _ (.int n)
    unfold lenD at e1
    split at e1
    · cases e1
      obtain ⟨p, vs, rfl, h1, r1⟩ := tup_inv ha
      exact ⟨_, call_len_seq, p, vs, rfl, .inr h1.sq, by rw [← r1.length]; exact qq⟩
    · cases e1
      obtain ⟨p, vs, rfl, h1, r1⟩ := ha
      exact ⟨_, call_len_seq, p, vs, rfl, .inl h1, by rw [← r1.length]; exact qq⟩
    · cases e1
      obtain ⟨p, ks, rfl, h1, r1⟩ := ha
      exact ⟨_, call_lenD', p, ks, rfl, h1, by rw [← r1.length]; exact qq⟩
    · split at e1
      · rename_i hz
        cases e1
        exact ⟨_, call_len_str, _, congrArg (fun z => [z]) (RepV.toStr ha), hz, qq⟩
      · cases e1
    · cases e1
  · cases hf
    cases e
    obtain ⟨p, vs, rfl, h1, r1⟩ := tup_inv ha
    exact ⟨_, call_list_of, p, vs, rfl, .inr h1.sq, fun l hl => q _ l r1 hl⟩
  · cases hf
    cases e
    obtain ⟨p, vs, rfl, h1, r1⟩ := ha
    exact ⟨_, call_list_of, p, vs, rfl, .inl h1, fun l hl => q _ l r1 hl⟩
  · cases hf
    cases e
    obtain ⟨p, ks, rfl, h1, r1⟩ := ha
    exact ⟨_, call_listD hc, p, ks, rfl, h1, fun l hl => q _ l r1.keys hl⟩
  · cases hf
    cases e
    obtain ⟨p, vs, rfl, h1, r1⟩ := tup_inv ha
    exact ⟨_, call_tuple_of, p, vs, rfl, .inr ⟨h1.sq, q.1 _ (.tup h1 r1)⟩⟩
  · cases hf
    cases e
    obtain ⟨p, vs, rfl, h1, r1⟩ := ha
    exact ⟨_, call_tuple_of, p, vs, rfl, .inl ⟨h1, fun l hl => q.2 _ l r1 hl⟩⟩
  · cases hf
    cases e
    obtain ⟨p, ks, rfl, h1, r1⟩ := ha
    exact ⟨_, call_dictD, p, ks, rfl, h1, fun l hl => q _ l r1 hl⟩
  · cases hf
    simp only [Option.map_eq_some_iff] at e
    obtain ⟨ns, e1, rfl⟩ := e
    obtain ⟨p, vs, rfl, h1, r1⟩ := ha
    have ev := r1.ofInts e1
    subst ev
    exact ⟨_, cr_sum hc, p, ns, rfl, h1, q.1 _ (.int _)⟩
  · cases hf
    obtain ⟨p, vs, rfl, h1, r1⟩ := ha
    split at e
    · rename_i n t e1
      cases e
      have ev := r1.ofInts e1
      subst ev
      refine ⟨_, cr_min hc, p, n :: t, rfl, h1, Nat.succ_pos _, fun m hm hl => ?_⟩
      obtain ⟨k1, k2⟩ := minI_mem n t
      rw [Int.le_antisymm (hl _ k1) (k2 _ hm)]
      exact q.1 _ (.int _)
    · cases e
  · cases hf
    obtain ⟨p, vs, rfl, h1, r1⟩ := ha
    split at e
    · rename_i n t e1
      cases e
      have ev := r1.ofInts e1
      subst ev
      refine ⟨_, cr_max hc, p, n :: t, rfl, h1, Nat.succ_pos _, fun m hm hl => ?_⟩
      obtain ⟨k1, k2⟩ := maxI_mem n t
      rw [Int.le_antisymm (k2 _ hm) (hl _ k1)]
      exact q.1 _ (.int _)
    · cases e
  · cases hf
    simp only [Option.map_eq_some_iff] at e
    obtain ⟨ns, e1, rfl⟩ := e
    obtain ⟨p, vs, rfl, h1, r1⟩ := ha
    have ev := r1.ofBls e1
    subst ev
    exact ⟨_, cr_any hc, p, ns, rfl, h1, q.1 _ (.bl _)⟩
  · cases hf
    simp only [Option.map_eq_some_iff] at e
    obtain ⟨ns, e1, rfl⟩ := e
    obtain ⟨p, vs, rfl, h1, r1⟩ := ha
    have ev := r1.ofBls e1
    subst ev
    exact ⟨_, cr_all hc, p, ns, rfl, h1, q.1 _ (.bl _)⟩
  · cases hf
    simp only [Option.map_eq_some_iff] at e
    obtain ⟨ns, e1, rfl⟩ := e
    obtain ⟨p, vs, rfl, h1, r1⟩ := ha
    have ev := r1.ofInts e1
    subst ev
    refine ⟨_, cr_sortedI, p, ns, rfl, h1, fun ns' l hp hs hl => ?_⟩
    rw [isort_eq hp hs]
    exact q _ l (RepVs.ints _) hl
  · cases hf
    simp only [Option.map_eq_some_iff] at e
    obtain ⟨ns, e1, rfl⟩ := e
    obtain ⟨p, vs, rfl, h1, r1⟩ := tup_inv ha
    have ev := r1.ofInts e1
    subst ev
    refine ⟨_, cr_sortedIT, p, ns, rfl, h1.sq, fun ns' l hp hs hl => ?_⟩
    rw [isort_eq hp hs]
    exact q _ l (RepVs.ints _) hl
  · cases hf
    cases e
    exact ⟨_, call_int1, .inl ⟨_, congrArg (fun z => [z]) (RepV.toInt ha), q.1 _ (.int _)⟩⟩
  · cases hf
    cases e
    exact ⟨_, call_int1, .inr ⟨_, congrArg (fun z => [z]) (RepV.toBl ha), q.1 _ (.int _)⟩⟩
  · cases hf
    cases e
    exact ⟨_, call_abs, _, congrArg (fun z => [z]) (RepV.toInt ha), q.1 _ (.int _)⟩
  · cases hf
  · cases hf
  · cases e
/-! ### isinstance -/
theorem isB_kit : ∀ T ∈ "NoneType" :: tys, ∀ t ∈ tys, kitB T t = isB T t := by decide +kernel
theorem isB_ok {T t : String} {b : Bool} (h : T ∈ "NoneType" :: tys) (e : isB T t = some b) : kitB T t = some b := by
  have ht : t ∈ tys := Classical.byContradiction fun z => by
    unfold isB at e
    rw [if_neg z] at e
    cases e
  rw [isB_kit T h t ht]
  exact e
theorem CV.ty {K : PySem.W.Frag} {a : D} {v : V} {T : String} (h : CV K mg φ ex H a v) (e : tyN a = some T) : TyX K H v (.type T) ∧ T ∈ "NoneType" :: tys := by
  have sq : ∀ {p : Addr} {xs : List V}, v = .ref p → SqT K H p xs → TyX K H v (.type "tuple") := fun {p xs} ev hs => by
    subst ev
    rcases hs with (hs | ⟨o, hs⟩) | ⟨o, its, n, hk, hcl, _⟩
    · exact .base (.tup hs)
    · exact .fTuple hs
    · exact .kTuple hk hcl
  have sl : ∀ {p : Addr} {xs : List V}, v = .ref p → SqL K H p xs → TyX K H v (.type "list") := fun {p xs} ev hs => by
    subst ev
    rcases hs with (hs | ⟨o, hs⟩) | ⟨o, its, n, hk, hcl, _⟩
    · exact .base (.lst hs)
    · exact .base (.frz hs)
    · exact .kList hk hcl
  cases a with
  | non =>
    cases e
    cases RepV.toNon h
    exact ⟨.base .non, by decide⟩
  | bl x =>
    cases e
    cases RepV.toBl h
    exact ⟨.base (.bl x), by decide⟩
  | int x =>
    cases e
    cases RepV.toInt h
    exact ⟨.base (.int x), by decide⟩
  | str x =>
    cases e
    cases RepV.toStr h
    exact ⟨.base (.str x), by decide⟩
  | tup ds =>
    cases e
    obtain ⟨p, vs, ev, h1, r1⟩ := tup_inv h
    exact ⟨sq ev h1.sq, by decide⟩
  | lst ds =>
    cases e
    obtain ⟨p, vs, ev, h1, r1⟩ := h
    exact ⟨sl ev h1, by decide⟩
  | dct ds =>
    cases e
    obtain ⟨p, vs, ev, h1, r1⟩ := h
    subst ev
    refine ⟨?_, by decide⟩
    rcases h1 with h1 | ⟨o, h1⟩
    · exact .base (.dK h1)
    · exact .fDict h1
  | ref n => cases e
  | fn n => cases e
theorem isa_rule {a : D} {v : V} {t : String} {b : Bool} {Q : VK} (h : CV X.K mg φ ex H a v) (e : isaD t a = some b) (q : Q (.bl b) H) : anyC X (.builtin "isinstance") [v, .ty t] H Q := by
  unfold isaD at e
  cases et : tyN a with
  | none => rw [et] at e; cases e
  | some T =>
    rw [et] at e
    obtain ⟨h1, h2⟩ := h.ty et
    exact ⟨_, call_isi, v, .ty t, .type T, .type t, b, rfl, .ty t, h1, kit_ty (isB_ok h2 e), q⟩
def bf2Val : BF → Option Value
  | .max2 => some (.builtin "max") | .min2 => some (.builtin "min") | _ => none
theorem bf2_rule {f : BF} {a b : D} {v u : V} {r : Op} {Q : VK} {fv : Value} (hc : X.calm = true) (hf : bf2Val f = some fv) (ha : CV X.K mg φ ex H a v) (hb : CV X.K mg φ ex H b u) (e : bf2D f a b = some r) (q : Res X.K mg φ ex H r Q) : anyC X fv [v, u] H Q := by
  unfold bf2D at e
  split at e
  · cases hf
    cases e
    cases RepV.toInt ha
    cases RepV.toInt hb
    exact ⟨_, call_max2 hc, _, _, rfl, q.1 _ (.int _)⟩
  · cases hf
    cases e
    cases RepV.toInt ha
    cases RepV.toInt hb
    exact ⟨_, call_min2 hc, _, _, rfl, q.1 _ (.int _)⟩
  · cases e
end
end Sk

/-! Sk4: the compact text against the model's; expressions. -/
namespace Sk
open PySem PySem.Spec PyProof.Rows L2

/-! ### methods of built-in types -/
def anyM (X : Cx) (id : String) : V → List V → Hp → VK → Prop := fun x xs H Q => ∃ r, MtR X id r ∧ r x xs H Q
theorem mt_any (X : Cx) (id : String) : MtR X id (anyM X id) := fun pins s σ H x xs v us Q I rx rs ⟨_, o, q⟩ => o pins s σ H x xs v us Q I rx rs q
def mtName : MF → Str
  | .append => "append" | .pop => "pop" | .popAt => "pop" | .insert => "insert" | .extend => "extend" | .get2 => "get" | .join => "join" | .index => "index" | .clear => "clear"
def mtT : MF → String
  | .get2 => "dict" | .join => "str" | .index => "str" | _ => "list"
def mtId : MF → String
  | .append => "list.append" | .pop => "list.pop" | .popAt => "list.pop" | .insert => "list.insert" | .extend => "list.extend" | .get2 => "dict.get" | .join => "str.join" | .index => "str.index" | .clear => "list.clear"
theorem mt_info (m : MF) : PlainAttrs (mtT m) ∧ Slot (mtT m) (mtName m) (mtId m) ∧ typeOf (.builtin (mtId m)) = pure (.type "method_descriptor") := by
  cases m
  · exact ⟨PySem.F.plainAttrs_list, PySem.F.slot_list_append, PySem.F.type_list_append⟩
  · exact ⟨PySem.F.plainAttrs_list, PySem.F.slot_list_pop, PySem.F.type_list_pop⟩
  · exact ⟨PySem.F.plainAttrs_list, PySem.F.slot_list_pop, PySem.F.type_list_pop⟩
  · exact ⟨PySem.F.plainAttrs_list, PySem.F.slot_list_insert, PySem.F.type_list_insert⟩
  · exact ⟨PySem.F.plainAttrs_list, PySem.F.slot_list_extend, PySem.F.type_list_extend⟩
  · exact ⟨PySem.F.plainAttrs_dict, PySem.F.slot_dict_get, PySem.F.type_dict_get⟩
  · exact ⟨PySem.F.plainAttrs_str, PySem.F.slot_str_join, PySem.F.type_str_join⟩
  · exact ⟨PySem.F.plainAttrs_str, PySem.F.slot_str_index, PySem.F.type_str_index⟩
  · exact ⟨PySem.F.plainAttrs_list, PySem.F.slot_list_clear, PySem.F.type_list_clear⟩
section
variable {X : Cx} {φ : List Addr} {ex : Addr → Prop} {H : Hp} {mg : Str → Option Value}
theorem mt_sindex : MtR X "str.index" (fun x xs H Q => ∃ (a b : Str) (k : Nat), x = .str a ∧ xs = [.str b] ∧ Txt.index0 a b = some k ∧ Q (.int k) H) := by
  intro pins s σ H x xs v us Q I rx rs ⟨a, b, k, ex, ev, hk, q⟩
  subst ex ev
  obtain ⟨t, rfl⟩ := rx
  obtain ⟨u, rfl, ru⟩ := rs.one
  obtain ⟨t', rfl⟩ := ru
  cases h : Builtin.Str.occurrences a b 0 a.length 1 with
  | nil =>
    unfold Txt.index0 at hk
    rw [h] at hk
    cases hk
  | cons j rest =>
    have hj : j = k := by
      unfold Txt.index0 at hk
      rw [h] at hk
      exact Option.some.inj hk
    subst hj
    exact PySem.SC.index h ⟨.int (j : Nat), H, I.tok _, ⟨_, rfl⟩, q⟩

/-- what a method hands back, writes -/
theorem mt_rule {m : MF} {a : D} {es : List D} {v : V} {vs : List V} {r : D × Option D} {Q : VK} (hm : m ≠ .get2) (ha : CV X.K mg φ ex H a v) (he : RepVs X.K mg φ ex H es vs) (e : mtD m a es = some r)
    (q : match r.2 with
      | none => ∀ w, RepV X.K mg φ ex H r.1 w → Q w H
      | some d => ∃ p, v = .ref p ∧ ObjD X.K mg φ ex H p a ∧ ex p ∧ ∀ w ho, RepV X.K mg φ ex H r.1 w → ObjD X.K mg φ ex (upd H p ho) p d → Q w (upd H p ho)) : anyM X (mtId m) v vs H Q := by
  have up : ∀ {p : Addr} {ho : HO}, ex p → Mv φ φ ex ex H (upd H p ho) := fun h => upd_mv h
  unfold mtD at e
  split at e
  · split at e
    · rename_i hl
      cases e
      obtain ⟨p, rfl, ⟨us, h1, r1⟩, hx, q⟩ := q
      cases he with
      | cons h t =>
        cases t
        exact ⟨_, mt_append, p, us, _, rfl, rfl, h1, by rw [← r1.length]; exact hl, q _ _ .non ⟨_, upd_same, (r1.app (.cons h .nil)).mv (up hx)⟩⟩
    · cases e
  · cases he
    simp only [Option.map_eq_some_iff] at e
    obtain ⟨y, e1, rfl⟩ := e
    obtain ⟨p, rfl, ⟨us, h1, r1⟩, hx, q⟩ := q
    rw [List.getLast?_eq_getElem?] at e1
    obtain ⟨w, e2, h2⟩ := r1.get e1
    rw [r1.length] at e2
    exact ⟨_, mt_pop, p, us, w, rfl, rfl, h1, e2, q _ _ h2 ⟨_, upd_same, r1.init.mv (up hx)⟩⟩
  · split at e
    · rename_i hi
      split at e
      · rename_i k hk
        simp only [Option.map_eq_some_iff] at e
        obtain ⟨y, e1, rfl⟩ := e
        obtain ⟨p, rfl, ⟨us, h1, r1⟩, hx, q⟩ := q
        obtain ⟨w, e2, h2⟩ := r1.get e1
        cases he with
        | cons h t =>
          cases t
          cases h.toInt
          exact ⟨_, mt_popAt, p, us, _, k, w, rfl, rfl, h1, hi.1, hi.2, by rw [← r1.length]; exact hk, e2, q _ _ h2 ⟨_, upd_same, (r1.erase k).mv (up hx)⟩⟩
      · cases e
    · cases e
  · split at e
    · rename_i hi
      cases e
      obtain ⟨p, rfl, ⟨us, h1, r1⟩, hx, q⟩ := q
      cases he with
      | cons h t =>
        cases t with
        | cons h2 t2 =>
          cases t2
          cases h.toInt
          refine ⟨_, mt_insert, p, us, _, _, rfl, rfl, h1, by rw [← r1.length]; exact hi.1, hi.2.1, hi.2.2, q _ _ .non ⟨_, upd_same, RepVs.mv (up hx) ?_⟩⟩
          rw [List.append_assoc]
          exact (r1.take _).app (.cons h2 (r1.drop _))
    · cases e
  · cases he
    cases e
    obtain ⟨p, rfl, ⟨us, h1, r1⟩, hx, q⟩ := q
    exact ⟨_, mt_clear, p, us, rfl, rfl, h1, q _ _ .non ⟨_, upd_same, .nil⟩⟩
  · cases he with
    | cons h t =>
      cases t
      simp only [Option.map_eq_some_iff] at e
      obtain ⟨k, e1, rfl⟩ := e
      exact ⟨_, mt_sindex, _, _, k, RepV.toStr ha, congrArg (fun z => [z]) h.toStr, e1, q _ (.int _)⟩
  · exact absurd rfl hm
  · split at e
    · rename_i ss e1
      split at e
      · rename_i hl
        cases e
        cases he with
        | cons h t =>
          cases t
          cases h with
          | lst h r1 =>
            have ev := r1.ofStrs e1
            subst ev
            exact ⟨_, mt_join, _, _, ss, RepV.toStr ha, rfl, .inl h.sq, hl, by rw [TL.join_eq]; exact q _ (.str _)⟩
      · cases e
    · cases e
  · cases e
end

/-! ### the two texts side by side -/
structure Tab where
  G : Str → Option D
  F : Str → Option Fn
  M : Str → Str → Option Str
def okName (x : Str) : Bool := x != ("__debug__" : Str) && x != ("__classdict__" : Str)
def visB (sc : Scope) (x : Str) : Bool := match sc.names.lookup x with
  | some .local => true
  | some .cell => true
  | some .free => true
  | _ => false
def gloB (sc : Scope) (x : Str) : Bool := (match sc.names.lookup x with
  | some .globalImplicit => true
  | _ => false) && okName x && x != ("__name__" : Str)
def bfName : BF → Str
  | .len => "len" | .list => "list" | .tuple => "tuple" | .dict => "dict" | .sum => "sum" | .min => "min" | .max => "max" | .any => "any" | .all => "all" | .sorted => "sorted" | .int => "int" | .abs => "abs"
  | .min2 => "min" | .max2 => "max" | _ => ""
/-- the built-in names that are used -/
def bNames : List Str := ["len", "list", "tuple", "dict", "sum", "min", "max", "any", "all", "sorted", "int", "abs", "isinstance", "range", "enumerate", "zip", "reversed", "set", "str", "bool"]
def plainE : Expr → Bool
  | .Starred .. => false
  | .Slice .. => false
  | _ => true
def noSet : Expr → Bool
  | .Set .. => false
  | _ => true
/-- an expression whose methods are called plainly -/
def recvE : Expr → Bool
  | .Call .. => false
  | .Starred .. => false
  | .Slice .. => false
  | _ => true
def recv2 : Expr → Bool
  | .Call (.Name _ _) [] [] _ => false
  | .Starred .. => false
  | .Slice .. => false
  | _ => true
def tgN (N : List Str) : Tg → Expr → Bool
  | .one i, .Name x _ => decide (N[i]? = some x)
  | .many is, .Tuple es _ _ => decide (es.length = is.length) && ((is.zip es).all fun p => match p.2 with
    | .Name x _ => decide (N[p.1]? = some x)
    | _ => false)
  | _, _ => false
def tgLoc (sc : Scope) : Expr → Bool
  | .Name x _ => (match sc.names.lookup x with
    | some .local => true
    | some .cell => true
    | _ => false)
  | .Tuple es _ _ => es.all fun e => match e with
    | .Name x _ => (match sc.names.lookup x with
      | some .local => true
      | some .cell => true
      | _ => false)
    | _ => false
  | _ => false
def ownOf (N : List Str) (t : Tg) : List (Str × Nat) := t.ixs.map fun i => (N.getD i "", i)
def isTupE : Expr → Bool
  | .Tuple .. => true
  | _ => false
section
variable (T : Tab)
mutual
def mE (sc : Scope) (N : List Str) : CE → Expr → Bool
  | .var i, e => (match e with
    | .Name x _ => decide (N[i]? = some x) && visB sc x && okName x
    | _ => false)
  | .rd i, e => (match e with
    | .Name x _ => decide (N[i]? = some x) && visB sc x && okName x
    | _ => false)
  | .mv i, e => (match e with
    | .Name x _ => decide (N[i]? = some x) && visB sc x && okName x
    | _ => false)
  | .non, e => (match e with
    | .Constant .none _ _ => true
    | _ => false)
  | .bl b, e => (match e with
    | .Constant (.bool c) _ _ => b == c
    | _ => false)
  | .int i, e => (match e with
    | .Constant (.int j) _ _ => decide (i = j)
    | _ => false)
  | .str x, e => (match e with
    | .Constant (.str y) _ _ => decide (x = y)
    | _ => false)
  | .glo x, e => (match e with
    | .Name y _ => decide (x = y) && gloB sc y
    | _ => false)
  | .tup es, e => (match e with
    | .Tuple l _ _ => mEs sc N es l
    | _ => false)
  | .lst es, e => (match e with
    | .List l _ => mEs sc N es l
    | _ => false)
  | .dis es, e => (match e with
    | .Dict ks vs _ => decide (ks.length = vs.length) && decide (ks.length ≤ 15) && mDs sc N es ks vs
    | _ => false)
  | .bop o a b, e => (match e with
    | .BinOp l op r _ => decide (opOf o = op) && mE sc N a l && mE sc N b r
    | _ => false)
  | .neg a, e => (match e with
    | .UnaryOp .USub x _ => mE sc N a x
    | _ => false)
  | .no a, e => (match e with
    | .UnaryOp .Not x _ => mE sc N a x
    | _ => false)
  | .cmp o a b, e => (match e with
    | .Compare l [op] [r] _ => decide (copOf o = op) && mE sc N a l && mE sc N b r && !behindInMarks op r
    | _ => false)
  | .chn o o' a b c, e => (match e with
    | .Compare l [op, op'] [r, r'] _ => decide (copOf o = op) && decide (copOf o' = op') && mE sc N a l && mE sc N b r && mE sc N c r' && !lastMarks [op, op'] [r, r']
    | _ => false)
  | .and a b, e => (match e with
    | .BoolOp .And [x, y] _ => mE sc N a x && mE sc N b y
    | .BoolOp .And (x :: y :: z :: r) p => mE sc N a x && mE sc N b (.BoolOp .And (y :: z :: r) p)
    | _ => false)
  | .orr a b, e => (match e with
    | .BoolOp .Or [x, y] _ => mE sc N a x && mE sc N b y
    | .BoolOp .Or (x :: y :: z :: r) p => mE sc N a x && mE sc N b (.BoolOp .Or (y :: z :: r) p)
    | _ => false)
  | .ite c a b, e => (match e with
    | .IfExp x y z _ => mE sc N c x && mE sc N a y && mE sc N b z
    | _ => false)
  | .sub a i, e => (match e with
    | .Subscript x y _ => mE sc N a x && mE sc N i y && plainE y
    | _ => false)
  | .slc a lo hi, e => (match e with
    | .Subscript x (.Slice l h none _) _ => mE sc N a x && mO sc N lo l && mO sc N hi h
    | _ => false)
  | .rev a, e => (match e with
    | .Subscript x (.Slice none none (some (.UnaryOp .USub (.Constant (.int i) _ _) _)) _) _ => mE sc N a x && decide (i = 1)
    | _ => false)
  | .bf f a, e => (match e with
    | .Call (.Name x _) [y] [] _ => (decide (x = bfName f) && gloB sc x && mE sc N a y && plainE y && (bfVal f).isSome) || (match f, y with
      | .lenset, .Call (.Name y _) [z] [] _ => decide (x = "len") && decide (y = "set") && gloB sc x && gloB sc y && mE sc N a z && plainE z
      | _, _ => false)
    | .Call (.Name x _) [y, .Name z _] [] _ => (match f with
      | .isa t => decide (x = "isinstance") && gloB sc x && gloB sc z && decide (z = Str.ofString t) && decide (t ∈ tys) && mE sc N a y && plainE y
      | _ => false)
    | _ => false)
  | .bf2 f a b, e => (match e with
    | .Call (.Name x _) [y, z] [] _ => decide (x = bfName f) && gloB sc x && mE sc N a y && mE sc N b z && plainE y && plainE z && (bf2Val f).isSome
    | _ => false)
  | .mt m o es, e => (match e with
    | .Call (.Attribute x n ap) l [] p => decide (n = mtName m) && (ap.endLine == p.line) && recvE x && mE sc N o x && mEs sc N es l && decide (l.length < 9)
    | _ => false)
  | .call f es, e => (match e with
    | .Call (.Name x _) l [] _ => decide (x = f) && gloB sc x && mEs sc N es l && isDef f
    | _ => false)
  | .meth m o es, e => (match e with
    | .Call (.Attribute x n ap) l [] p => decide (n = m) && (ap.endLine == p.line) && recv2 x && mE sc N o x && mEs sc N es l && decide (l.length < 9)
    | _ => false)
  | .new c es, e => (match e with
    | .Call (.Name x _) l [] _ => decide (x = c) && gloB sc x && mEs sc N es l
    | _ => false)
  | .attr o f, e => (match e with
    | .Attribute x n _ => decide (n = f) && recv2 x && mE sc N o x
    | _ => false)
  | .al c, e => mE sc N c e
  | .lrev c, e => (match e with
    | .Call (.Name x _) [.Call (.Name y _) [z] [] _] [] _ => decide (x = "list") && decide (y = "reversed") && gloB sc x && gloB sc y && mE sc N c z && plainE z
    | _ => false)
  | .lc elt tg it cs, e => (match e with
    | .ListComp x [⟨t, i, ifs, 0⟩] scope _ => mI sc N it i t && tgN N tg t && tgLoc scope t && blkC N sc scope (ownOf N tg) && mE scope N elt x && mCs scope N cs ifs && decide ((tg.ixs).Nodup)
    | _ => false)
def mEs (sc : Scope) (N : List Str) : List CE → List Expr → Bool
  | [], l => l.isEmpty
  | c :: cs, l => (match l with
    | e :: r => mE sc N c e && plainE e && mEs sc N cs r
    | [] => false)
def mDs (sc : Scope) (N : List Str) : List CE → List (Option Expr) → List Expr → Bool
  | [], ks, vs => ks.isEmpty && vs.isEmpty
  | [_], _, _ => false
  | a :: b :: cs, ks, vs => (match ks, vs with
    | some k :: ks, v :: vs => mE sc N a k && mE sc N b v && mDs sc N cs ks vs
    | _, _ => false)
def mO (sc : Scope) (N : List Str) : Option CE → Option Expr → Bool
  | none, e => e.isNone
  | some c, e => (match e with
    | some x => mE sc N c x
    | none => false)
/-- tests -/
def mCs (sc : Scope) (N : List Str) : List CE → List Expr → Bool
  | [], l => l.isEmpty
  | [c], l => (match l with
    | [e] => mE sc N c e
    | _ => false)
  | _, _ => false
def mI (sc : Scope) (N : List Str) : It' → Expr → Expr → Bool
  | .seq c, e, _ => mE sc N c e && plainE e && noSet e
  | .rng c, e, _ => (match e with
    | .Call (.Name x _) [y] [] _ => decide (x = "range") && gloB sc x && mE sc N c y && plainE y
    | _ => false)
  | .rng2 a b, e, _ => (match e with
    | .Call (.Name x _) [y, z] [] _ => decide (x = "range") && gloB sc x && mE sc N a y && plainE y && mE sc N b z && plainE z
    | _ => false)
  | .enu c, e, t => (match e with
    | .Call (.Name x _) [y] [] _ => decide (x = "enumerate") && gloB sc x && mE sc N c y && plainE y && isTupE t
    | _ => false)
  | .zip a b, e, t => (match e with
    | .Call (.Name x _) [y, z] [] _ => decide (x = "zip") && gloB sc x && mE sc N a y && plainE y && mE sc N b z && plainE z && isTupE t
    | _ => false)
  | .revd c, e, _ => (match e with
    | .Call (.Name x _) [y] [] _ => decide (x = "reversed") && gloB sc x && mE sc N c y && plainE y
    | _ => false)
  | .keys c, e, _ => mE sc N c e && isPath c && plainE e && noSet e
  | .items c, e, t => (match e with
    | .Call (.Attribute y n ap) [] [] p => decide (n = "items") && (ap.endLine == p.line) && recvE y && mE sc N c y && isPath c && isTupE t
    | _ => false)
  | .values c, e, _ => (match e with
    | .Call (.Attribute y n ap) [] [] p => decide (n = "values") && (ap.endLine == p.line) && recvE y && mE sc N c y && isPath c
    | _ => false)
end
end
end Sk

/-! Sk5: what an expression's evaluation says is what the model does. -/
namespace Sk
open PySem PySem.Spec PyProof.Rows L2

theorem bnd_inv {α β : Type} {m : Option (α × Env' × Sto)} {f : α → Env' → Sto → Option β} {r : β} (h : bnd m f = some r) : ∃ a ρ S, m = some (a, ρ, S) ∧ f a ρ S = some r := by
  cases m with
  | none => cases h
  | some q =>
    obtain ⟨a, ρ, S⟩ := q
    exact ⟨a, ρ, S, rfl, h⟩
theorem obd_inv {α β : Type} {m : Option α} {f : α → Option β} {r : β} (h : obd m f = some r) : ∃ a, m = some a ∧ f a = some r := by
  cases m with
  | none => cases h
  | some q => exact ⟨q, rfl, h⟩

/-- a def's promise: what its evaluation says -/
def spF (T : Tab) (k : Nat) (f : Str) (K : PySem.W.Frag) (mg : Str → Option Value) : Sp := fun vs H Q _ => ∃ φ out S ds r S', Rel K mg φ out [] S [] H ∧ RepVs K mg φ (exc φ out [] []) H ds vs ∧
  callK T.G T.F T.M k f ds S = some (r, S') ∧ ∀ v H' φ', Post K mg φ out [] [] H r [] S' v H' φ' → Q v H'
structure Good (T : Tab) (k : Nat) (X : Cx) (sc : Scope) : Prop where
  calm : X.calm = true
  nd : X.N.Nodup
  loc : ∀ x, sc.names.lookup x = some .local → X.env.scope.names.lookup x = some .local
  cel : ∀ x, sc.names.lookup x = some .cell → X.env.scope.names.lookup x = some .cell
  fre : ∀ x, sc.names.lookup x = some .free → X.env.scope.names.lookup x = some .cell ∨ X.env.scope.names.lookup x = some .free
  glo : ∀ x, sc.names.lookup x = some .globalImplicit → X.env.scope.names.lookup x = some .globalImplicit
  fnc : ∀ x, sc.names.lookup x = some .cell → X.fn x = true
  blt : ∀ x ∈ bNames, X.mg x = none
  room : Room k X.A
  G : ∀ x d, T.G x = some d → ∃ u v, X.mg x = some u ∧ RelV v u ∧ ∀ φ ex H, RepV X.K X.mg φ ex H d v
  F : ∀ f fn, isDef f = true → T.F f = some fn → ∃ a fd ps, X.mg f = some (.ref a) ∧ PySem.W.keepIn X.K (.ref a) = true ∧ Binds X.K fd ps [] ∧ FnOk X.prog X.w X.K X.mg X.base CX0 k a fd ps (spF T k f X.K X.mg)
  M : ∀ c m f, T.M c m = some f → isAt m = false → ∃ C a fd ps, X.mg c = some (.ref C) ∧ Cls X.K C ∧ Meth X.K C m a ∧ Binds X.K fd ps [] ∧ FnOk X.prog X.w X.K X.mg X.base CX0 k a fd ps (spF T k f X.K X.mg)
  A : ∀ c f s, T.M c (atName f) = some s → ∃ C, X.mg c = some (.ref C) ∧ Cls X.K C ∧ NoAttr X.K C f
  N : ∀ c fn, T.F (newName c) = some fn → ∃ C i a fd ps n, X.mg c = some (.ref C) ∧ Mk X.K C a ∧ fn = ⟨n, n, [.mk c i]⟩ ∧ Binds X.K fd ps [] ∧ ∀ j, k = j + 1 → FnOk X.prog X.w X.K X.mg X.base CX0 j a fd ps (spF T j i X.K X.mg)

section
variable (T : Tab) (k : Nat) (X : Cx)
abbrev ev (c : CE) (ρ : Env') (S : Sto) := evE T.G (callK T.G T.F T.M k) T.M c ρ S
abbrev evs (c : List CE) (ρ : Env') (S : Sto) := evL T.G (callK T.G T.F T.M k) T.M c ρ S
def TEv (c : CE) : TE := fun σ H Q => ∃ φ out ρ S o ρ' S', Rel X.K X.mg φ out ρ S σ H ∧ ev T k c ρ S = some (o, ρ', S') ∧ ∀ v H' φ', Post X.K X.mg φ out ρ σ H o ρ' S' v H' φ' → Q v H'
def TTv (c : CE) : TT := fun σ H Q => ∃ φ out ρ S b ρ' S', Rel X.K X.mg φ out ρ S σ H ∧ ev T k c ρ S = some (.fz (.bl b), ρ', S') ∧ ∀ H' φ', Stp φ ρ σ H φ' ρ' σ H' → Rel X.K X.mg φ' out ρ' S' σ H' → Q b H'
def TAv (cs : List CE) : TA := fun σ H Q => ∃ φ out ρ S ds ρ' S', Rel X.K X.mg φ out ρ S σ H ∧ evs T k cs ρ S = some (ds, ρ', S') ∧
  ∀ vs H' φ', Stp φ ρ σ H φ' ρ' σ H' → Rel X.K X.mg φ' out ρ' S' σ H' → RepVs X.K X.mg φ' (exc φ' out ρ' σ) H' ds vs → Q vs H'
end
section
variable {T : Tab} {k : Nat} {X : Cx} {sc : Scope} {φ φ2 : List Addr} {out : Addr → Prop} {ρ ρ2 : Env'} {S S2 : Sto} {σ : L2.St} {H H2 : Hp}
theorem Good.vis (g : Good T k X sc) {x : Str} (h : visB sc x = true) : Vis X.env.scope x := by
  unfold visB at h
  split at h
  · rename_i e; exact .inl (g.loc x e)
  · rename_i e; exact .inr (.inl (g.cel x e))
  · rename_i e; exact .inr (g.fre x e)
  · cases h
theorem Good.gl (g : Good T k X sc) {x : Str} (h : gloB sc x = true) : Gl X x ∧ (x == ("__debug__" : Str)) = false ∧ (x == ("__classdict__" : Str)) = false ∧ x ≠ "__name__" := by
  unfold gloB okName at h
  simp only [Bool.and_eq_true, bne_iff_ne, ne_eq] at h
  obtain ⟨⟨h1, h2, h3⟩, h4⟩ := h
  split at h1
  · rename_i e
    exact ⟨g.glo x e, beq_eq_false_iff_ne.mpr h2, beq_eq_false_iff_ne.mpr h3, h4⟩
  · cases h1
theorem okName_ne {x : Str} (h : okName x = true) : (x == ("__debug__" : Str)) = false ∧ (x == ("__classdict__" : Str)) = false := by
  unfold okName at h
  simp only [Bool.and_eq_true, bne_iff_ne, ne_eq] at h
  exact ⟨beq_eq_false_iff_ne.mpr h.1, beq_eq_false_iff_ne.mpr h.2⟩
theorem Good.hu (g : Good T k X sc) : X.A.units + 65 < cLine := by
  have := g.room.un
  omega

/-- a frozen value at the end -/
theorem endFz {d : D} {v : V} (t : Stp φ ρ σ H φ2 ρ2 σ H2) (R : Rel X.K X.mg φ2 out ρ2 S2 σ H2) (h : RepV X.K X.mg φ2 (exc φ2 out ρ2 σ) H2 d v) : Post X.K X.mg φ out ρ σ H (.fz d) ρ2 S2 v H2 φ2 := ⟨t, R, h⟩
theorem endTup {ds : List D} {vs : List V} {p : Addr} (t : Stp φ ρ σ H φ2 ρ2 σ H2) (R : Rel X.K X.mg φ2 out ρ2 S2 σ H2) (h : RepVs X.K X.mg φ2 (exc φ2 out ρ2 σ) H2 ds vs) (hp : H2 p = none) :
    Post X.K X.mg φ out ρ σ H (.fz (.tup ds)) ρ2 S2 (.ref p) (upd H2 p (.tup vs)) φ2 :=
  ⟨t.trans (new_stp hp), R.new hp, .tup (.inl ⟨.inl upd_same, R.free hp⟩) (h.mv (new_mv hp))⟩
theorem fresh_none {p : Addr} (t : Stp φ ρ σ H φ2 ρ2 σ H2) (hp : H2 p = none) : H p = none := Classical.byContradiction fun z => t.kp p z hp
theorem out_mv {p : Addr} {ho : HO} (hp : H2 p = none) : Mv φ2 φ2 (exc φ2 out ρ2 σ) (exc φ2 (fun b => out b ∨ b = p) ρ2 σ) H2 (upd H2 p ho) :=
  ⟨fun _ _ e => e, fun b o e _ => by rw [upd_ne (fun z => by rw [z, hp] at e; cases e)]; exact e, fun b z => by
    rcases z with z | (z | z) | z
    · exact .inl (.inl z)
    · exact .inl (.inr (.inl z))
    · exact .inr (z ▸ hp)
    · exact .inl (.inr (.inr z))⟩
theorem endLst {ds : List D} {vs : List V} {p : Addr} (t : Stp φ ρ σ H φ2 ρ2 σ H2) (R : Rel X.K X.mg φ2 out ρ2 S2 σ H2) (h : RepVs X.K X.mg φ2 (exc φ2 out ρ2 σ) H2 ds vs) (hp : H2 p = none) :
    Post X.K X.mg φ out ρ σ H (.fr (.lst ds)) ρ2 S2 (.ref p) (upd H2 p (.lst vs)) φ2 :=
  ⟨t.trans (new_stp hp), R.new hp, p, rfl, R.newOut hp, ⟨vs, upd_same, h.mv (out_mv hp)⟩, fun z => R.ot p z hp, .inl (fresh_none t hp)⟩
theorem endDct {ds : List (D × D)} {vs : List (Key × V)} {p : Addr} (t : Stp φ ρ σ H φ2 ρ2 σ H2) (R : Rel X.K X.mg φ2 out ρ2 S2 σ H2) (h : RepK X.K X.mg φ2 (exc φ2 out ρ2 σ) H2 ds vs) (hp : H2 p = none) :
    Post X.K X.mg φ out ρ σ H (.fr (.dct ds)) ρ2 S2 (.ref p) (upd H2 p (.dK vs)) φ2 :=
  ⟨t.trans (new_stp hp), R.new hp, p, rfl, R.newOut hp, ⟨vs, upd_same, h.mv (out_mv hp)⟩, fun z => R.ot p z hp, .inl (fresh_none t hp)⟩
/-- what an operation hands back is an end -/
theorem resEnd {r : Op} {Q : VK} (hr : ∀ d, r = .fr d → (∃ ds, d = .lst ds) ∨ ∃ kvs, d = .dct kvs) (hs : ∀ i, r ≠ .sl i) (t : Stp φ ρ σ H φ2 ρ2 σ H2) (R : Rel X.K X.mg φ2 out ρ2 S2 σ H2)
    (q : ∀ v H' φ', Post X.K X.mg φ out ρ σ H r ρ2 S2 v H' φ' → Q v H') : Res X.K X.mg φ2 (exc φ2 out ρ2 σ) H2 r Q := by
  cases r with
  | fz d =>
    refine ⟨fun v h => q v H2 φ2 (endFz t R h), ?_⟩
    cases d with
    | tup ds => exact fun vs p h hp => q _ _ _ (endTup t R h hp)
    | _ => exact trivial
  | fr d =>
    rcases hr d rfl with ⟨ds, rfl⟩ | ⟨kvs, rfl⟩
    · exact fun vs p h hp => q _ _ _ (endLst t R h hp)
    · exact fun vs p h hp => q _ _ _ (endDct t R h hp)
  | sl i => exact absurd rfl (hs i)
theorem bop_fr {o : BO} {a b : D} {r : Op} (e : bopD o a b = some r) : (∀ d, r = .fr d → (∃ ds, d = .lst ds) ∨ ∃ kvs, d = .dct kvs) ∧ ∀ i, r ≠ .sl i := by
  unfold bopD at e
  split at e <;> (try split at e) <;> first
    | (cases e; done)
    | (cases e; refine ⟨fun d z => ?_, fun i z => (nomatch z)⟩; first | (cases z; done) | (cases z; exact .inl ⟨_, rfl⟩))
theorem slc_fr {a : D} {lo hi : Option Int} {r : Op} (e : slcD a lo hi = some r) : (∀ d, r = .fr d → (∃ ds, d = .lst ds) ∨ ∃ kvs, d = .dct kvs) ∧ ∀ i, r ≠ .sl i := by
  unfold slcD at e
  split at e <;> (try split at e) <;> first
    | (cases e; done)
    | (cases e; refine ⟨fun d z => ?_, fun i z => (nomatch z)⟩; first | (cases z; done) | (cases z; exact .inl ⟨_, rfl⟩))
theorem bf_fr {f : BF} {a : D} {r : Op} (e : bfD f a = some r) : (∀ d, r = .fr d → (∃ ds, d = .lst ds) ∨ ∃ kvs, d = .dct kvs) ∧ ∀ i, r ≠ .sl i := by
  have key : ∀ {β : Type} {m : Option β} {g : β → Op}, m.map g = some r → (∀ x, (∀ d, g x = .fr d → (∃ ds, d = .lst ds) ∨ ∃ kvs, d = .dct kvs) ∧ ∀ i, g x ≠ .sl i) → (∀ d, r = .fr d → (∃ ds, d = .lst ds) ∨ ∃ kvs, d = .dct kvs) ∧ ∀ i, r ≠ .sl i := fun {β m g} e h => by
    cases m with
    | none => cases e
    | some x => cases e; exact h x
  unfold bfD at e
  split at e <;> (try split at e) <;> first
    | (cases e; done)
    | (refine key e fun x => ⟨fun d z => ?_, fun i z => (nomatch z)⟩; first | (cases z; done) | (cases z; exact .inl ⟨_, rfl⟩))
    | (cases e; refine ⟨fun d z => ?_, fun i z => (nomatch z)⟩; first | (cases z; done) | (cases z; first | exact .inl ⟨_, rfl⟩ | exact .inr ⟨_, rfl⟩))
theorem bf2_fr {f : BF} {a b : D} {r : Op} (e : bf2D f a b = some r) : (∀ d, r = .fr d → (∃ ds, d = .lst ds) ∨ ∃ kvs, d = .dct kvs) ∧ ∀ i, r ≠ .sl i := by
  unfold bf2D at e
  split at e <;> first
    | (cases e; done)
    | (cases e; refine ⟨fun d z => (nomatch z), fun i z => (nomatch z)⟩)

/-- one operand -/
theorem one {a : CE} {x : Op} {ρ1 : Env'} {S1 : Sto} {R1 : VK} (R : Rel X.K X.mg φ out ρ S σ H) (ea : ev T k a ρ S = some (x, ρ1, S1))
    (h : ∀ v H1 φ1, Post X.K X.mg φ out ρ σ H x ρ1 S1 v H1 φ1 → R1 v H1) : TEv T k X a σ H R1 := ⟨φ, out, ρ, S, x, ρ1, S1, R, ea, h⟩
/-- two operands -/
theorem two {a b : CE} {x y : Op} {ρ1 : Env'} {S1 : Sto} {R1 : V → V → Hp → Prop} (R : Rel X.K X.mg φ out ρ S σ H) (ea : ev T k a ρ S = some (x, ρ1, S1)) (eb : ev T k b ρ1 S1 = some (y, ρ2, S2))
    (h : ∀ v u H2 φ2, Stp φ ρ σ H φ2 ρ2 σ H2 → Rel X.K X.mg φ2 out ρ2 S2 σ H2 → OpV X.K X.mg φ2 (exc φ2 out ρ2 σ) σ H2 x v → OpV X.K X.mg φ2 (exc φ2 out ρ2 σ) σ H2 y u → R1 v u H2) :
    TEv T k X a σ H fun v H1 => TEv T k X b σ H1 fun u H2 => R1 v u H2 := by
  refine one R ea fun v H1 φ1 p1 => one p1.rel eb fun u H2 φ2 p2 => ?_
  exact h v u H2 φ2 (p1.stp.trans p2.stp) p2.rel ((p1.val.op p1.rel).mv (p2.stp.mv p1.rel fun _ z => .inl z)) (p2.val.op p2.rel)
/-- three -/
theorem three {a b c : CE} {x y z : Op} {ρ1 ρ3 : Env'} {S1 S3 : Sto} {R1 : V → V → V → Hp → Prop} (R : Rel X.K X.mg φ out ρ S σ H) (ea : ev T k a ρ S = some (x, ρ1, S1)) (eb : ev T k b ρ1 S1 = some (y, ρ2, S2)) (ec : ev T k c ρ2 S2 = some (z, ρ3, S3))
    (h : ∀ v u w H3 φ3, Stp φ ρ σ H φ3 ρ3 σ H3 → Rel X.K X.mg φ3 out ρ3 S3 σ H3 → OpV X.K X.mg φ3 (exc φ3 out ρ3 σ) σ H3 x v → OpV X.K X.mg φ3 (exc φ3 out ρ3 σ) σ H3 y u → OpV X.K X.mg φ3 (exc φ3 out ρ3 σ) σ H3 z w → R1 v u w H3) :
    TEv T k X a σ H fun v H1 => TEv T k X b σ H1 fun u H2 => TEv T k X c σ H2 fun w H3 => R1 v u w H3 := by
  refine two R ea eb fun v u H2 φ2 t R2 hv hu => one R2 ec fun w H3 φ3 p3 => ?_
  have m := p3.stp.mv (out' := out) R2 fun _ z => .inl z
  exact h v u w H3 φ3 (t.trans p3.stp) p3.rel (hv.mv m) (hu.mv m) (p3.val.op p3.rel)

/-! ### small facts of the model's text -/
theorem star_plain {e : Expr} {es : List Expr} {env : Env} (h : plainE e = true) : starEach (e :: es) env = (false, eval e env) :: starEach es env := by
  cases e <;> first
    | rfl
    | cases h
theorem plain_ix {e : Expr} (h : plainE e = true) : PlainIx e := by
  intro o i
  cases e <;> first
    | rfl
    | cases h
theorem plain_fold {e : Expr} (h : noSet e = true) {env : Env} {x : Value} : foldedSetIterable e env x = pure x := by
  cases e <;> first
    | rfl
    | cases h
theorem recv2_base {o : Expr} {n : Str} {env : Env} {w : Sem Value} (h : recv2 o = true) : attributeBase o n env w = w := by
  cases o <;> first
    | rfl
    | (cases h; done)
    | (rename_i f args kws p
       cases f <;> first
         | rfl
         | (cases args <;> cases kws <;> first
             | rfl
             | cases h))
theorem recv_base {o : Expr} {n : Str} {env : Env} {w : Sem Value} (h : recvE o = true) : attributeBase o n env w = w := by
  cases o <;> first
    | rfl
    | cases h
end
end Sk

/-! Sk6: walks, blocks, targets. -/
namespace Sk
open PySem PySem.Spec PyProof.Rows L2

/-- what a walk yields: the items, the tuples that it makes being new -/
def ItOk (K : PySem.W.Frag) (mg : Str → Option Value) (φ : List Addr) (ex : Addr → Prop) (J : It) (ds : List D) (H1 : Hp) : Prop := ∀ φ' ex' H', Mv φ φ' ex ex' H1 H' → (∀ b, ex' b → H' b ≠ none) → ∀ (i : Nat),
  (∀ d, ds[i]? = some d → J.go i H' ∧ ∀ x H2, J.yld i H' x H2 → (H2 = H' ∧ RepV K mg φ' ex' H2 d x) ∨ (∃ p o, H' p = none ∧ H2 = upd H' p o ∧ RepV K mg φ' ex' H2 d x)) ∧ (i = ds.length → J.stop i H')
section
variable (T : Tab) (k : Nat) (X : Cx)
abbrev evi (c : It') (ρ : Env') (S : Sto) := evI T.G (callK T.G T.F T.M k) T.M c ρ S
def TIv (c : It') : TI := fun σ H R => ∃ φ out ρ S ds ρ' S', Rel X.K X.mg φ out ρ S σ H ∧ evi T k c ρ S = some (ds, ρ', S') ∧
  ∀ J H1 φ1, Stp φ ρ σ H φ1 ρ' σ H1 → Rel X.K X.mg φ1 out ρ' S' σ H1 → ItOk X.K X.mg φ1 (exc φ1 out ρ' σ) J ds H1 → R J H1
end
section
variable {K : PySem.W.Frag} {mg : Str → Option Value} {φ φ' : List Addr} {ex ex' : Addr → Prop} {H H1 H' : Hp}
theorem FzL.mv (m : Mv φ φ' ex ex' H H') {a : Addr} {xs : List V} (h : FzL K ex H a xs) : FzL K ex' H' a xs := h.elim (fun ⟨h, n⟩ => .inl (m.nex h n)) .inr
theorem FzT.mv (m : Mv φ φ' ex ex' H H') {a : Addr} {xs : List V} (h : FzT K ex H a xs) : FzT K ex' H' a xs := h.elim (fun ⟨h, n⟩ => .inl (m.nex h n)) .inr
theorem Rd.fun {H : Hp} {a : Addr} {u w : HO} (nf : ∀ o x, w ≠ .frz o x) (nu : ∀ o x, u ≠ .frz o x) (h : Rd H a u) (h' : Rd H a w) : u = w := by
  rcases h with h | ⟨o, h⟩ <;> rcases h' with h' | ⟨o', h'⟩ <;> (rw [h] at h')
  · exact Option.some.inj h'
  · exact absurd (Option.some.inj h') (nu _ _)
  · exact absurd (Option.some.inj h').symm (nf _ _)
  · have := Option.some.inj h'
    injection this
theorem itok_list {a : Addr} {vs : List V} {ds : List D} (h : FzL K ex H1 a vs) (r : RepVs K mg φ ex H1 ds vs) : ItOk K mg φ ex (Itl K a) ds H1 := by
  intro φ' ex' H' m _ i
  have h' := h.mv m
  have r' := r.mv m
  refine ⟨fun d e => ?_, fun e => ⟨vs, h'.sq, by rw [e, r.length]; exact Nat.le_refl _⟩⟩
  obtain ⟨v, e1, h1⟩ := r'.get e
  refine ⟨⟨vs, v, h'.sq, e1⟩, fun x H2 y => .inl ?_⟩
  obtain ⟨rfl, y⟩ := y
  have e2 := y vs h'.sq
  rw [e1] at e2
  cases e2
  exact ⟨rfl, h1⟩
theorem itok_tup {a : Addr} {vs : List V} {ds : List D} (h : FzT K ex H1 a vs) (r : RepVs K mg φ ex H1 ds vs) : ItOk K mg φ ex (Itt K a) ds H1 := by
  intro φ' ex' H' m _ i
  have h' := h.mv m
  have r' := r.mv m
  refine ⟨fun d e => ?_, fun e => ⟨vs, h'.sq, by rw [e, r.length]; exact Nat.le_refl _⟩⟩
  obtain ⟨v, e1, h1⟩ := r'.get e
  refine ⟨⟨vs, v, h'.sq, e1⟩, fun x H2 y => .inl ?_⟩
  obtain ⟨rfl, y⟩ := y
  have e2 := y vs h'.sq
  rw [e1] at e2
  cases e2
  exact ⟨rfl, h1⟩
theorem itok_rng {lo : Int} {n : Nat} : ItOk K mg φ ex (Itr lo n) ((List.range n).map fun (k : Nat) => D.int (lo + k)) H1 := by
  intro φ' ex' H' m _ i
  refine ⟨fun d e => ?_, fun e => by rw [e]; simp [Itr]⟩
  rw [List.getElem?_map] at e
  simp only [Option.map_eq_some_iff] at e
  obtain ⟨j, e1, rfl⟩ := e
  obtain ⟨h1, h2⟩ := List.getElem?_eq_some_iff.mp e1
  simp only [List.getElem_range] at h2
  subst h2
  simp only [List.length_range] at h1
  refine ⟨h1, fun x H2 y => .inl ?_⟩
  obtain ⟨rfl, rfl⟩ := y
  exact ⟨rfl, .int _⟩
theorem itok_str {z : Str} : ItOk K mg φ ex (Its z) (chars z) H1 := by
  intro φ' ex' H' m _ i
  refine ⟨fun d e => ?_, fun e => by rw [e]; simp [Its, chars]⟩
  unfold chars at e
  rw [List.getElem?_map] at e
  simp only [Option.map_eq_some_iff] at e
  obtain ⟨c, e1, rfl⟩ := e
  have e2 : z.cps[i]? = some c := by simpa using e1
  refine ⟨(Array.getElem?_eq_some_iff.mp e2).1, fun x H2 y => .inl ?_⟩
  obtain ⟨rfl, c', e3, rfl⟩ := y
  rw [e2] at e3
  cases e3
  exact ⟨rfl, .str _⟩
theorem enum_get {ds : List D} {i : Nat} {d : D} (e : (enumD ds)[i]? = some d) : ∃ x, ds[i]? = some x ∧ d = .tup [.int (i : Nat), x] := by
  unfold enumD at e
  rw [List.getElem?_map, List.getElem?_zipIdx] at e
  simp only [Option.map_eq_some_iff, Nat.zero_add] at e
  obtain ⟨p, ⟨x, e1, rfl⟩, rfl⟩ := e
  exact ⟨x, e1, rfl⟩
theorem zip_get {as bs : List D} {i : Nat} {d : D} (e : (zipD as bs)[i]? = some d) : ∃ x y, as[i]? = some x ∧ bs[i]? = some y ∧ d = .tup [x, y] := by
  unfold zipD at e
  rw [List.getElem?_map] at e
  simp only [Option.map_eq_some_iff] at e
  obtain ⟨⟨x, y⟩, e1, rfl⟩ := e
  obtain ⟨h1, h2⟩ := List.getElem?_zip_eq_some.mp e1
  exact ⟨x, y, h1, h2, rfl⟩
/-- a new tuple of what stands there -/
theorem newTup {H' : Hp} {T : Addr} {ds : List D} {vs : List V} (hT : H' T = none) (hx : ∀ b, ex' b → H' b ≠ none) (r : RepVs K mg φ' ex' H' ds vs) : RepV K mg φ' ex' (upd H' T (.tup vs)) (.tup ds) (.ref T) :=
  .tup (.inl ⟨.inl upd_same, fun z => hx T z hT⟩) (r.mv ⟨fun _ _ e => e, fun b o e _ => by rw [upd_ne (fun z => by rw [z, hT] at e; cases e)]; exact e, fun _ z => .inl z⟩)
theorem itok_enum {a : Addr} {vs : List V} {ds : List D} (h : FzL K ex H1 a vs) (r : RepVs K mg φ ex H1 ds vs) : ItOk K mg φ ex (Ite K a) (enumD ds) H1 := by
  intro φ' ex' H' m hx i
  have h' := h.mv m
  have r' := r.mv m
  refine ⟨fun d e => ?_, fun e => ⟨vs, h'.sq, by rw [e, ← r.length]; simp [enumD]⟩⟩
  obtain ⟨x, e1, rfl⟩ := enum_get e
  obtain ⟨v, e2, h1⟩ := r'.get e1
  refine ⟨⟨vs, v, h'.sq, e2⟩, fun x H2 y => .inr ?_⟩
  obtain ⟨T, w, rfl, hT, rfl, y⟩ := y
  have e3 := y vs h'.sq
  rw [e2] at e3
  cases e3
  exact ⟨T, _, hT, rfl, newTup hT hx (.cons (.int _) (.cons h1 .nil))⟩
theorem zip_stop {as bs : List D} {us vs : List V} (ha : as.length = us.length) (hb : bs.length = vs.length) {i : Nat} (e : i = (zipD as bs).length) : us.length ≤ i ∨ vs.length ≤ i := by
  have : i = min as.length bs.length := by rw [e]; simp [zipD]
  omega
theorem itok_zip {a b : Addr} {us vs : List V} {as bs : List D} (ha : FzL K ex H1 a us) (ra : RepVs K mg φ ex H1 as us) (hb : FzL K ex H1 b vs) (rb : RepVs K mg φ ex H1 bs vs) : ItOk K mg φ ex (Itz K a b) (zipD as bs) H1 := by
  intro φ' ex' H' m hx i
  have ha' := ha.mv m
  have ra' := ra.mv m
  have hb' := hb.mv m
  have rb' := rb.mv m
  refine ⟨fun d e => ?_, fun e => ⟨us, vs, ha'.sq, hb'.sq, zip_stop ra.length rb.length e⟩⟩
  obtain ⟨x, y, e1, e2, rfl⟩ := zip_get e
  obtain ⟨v, e3, h3⟩ := ra'.get e1
  obtain ⟨w, e4, h4⟩ := rb'.get e2
  refine ⟨⟨us, vs, v, w, ha'.sq, hb'.sq, e3, e4⟩, fun x H2 y => .inr ?_⟩
  obtain ⟨T, p, q, rfl, hT, rfl, y1, y2⟩ := y
  have e5 := y1 us ha'.sq
  have e6 := y2 vs hb'.sq
  rw [e3] at e5
  rw [e4] at e6
  cases e5
  cases e6
  exact ⟨T, _, hT, rfl, newTup hT hx (.cons h3 (.cons h4 .nil))⟩
theorem itok_zipT {a b : Addr} {us vs : List V} {as bs : List D} (ha : FzT K ex H1 a us) (ra : RepVs K mg φ ex H1 as us) (hb : FzT K ex H1 b vs) (rb : RepVs K mg φ ex H1 bs vs) : ItOk K mg φ ex (RZ.ItzT K a b) (zipD as bs) H1 := by
  intro φ' ex' H' m hx i
  have ha' := ha.mv m
  have ra' := ra.mv m
  have hb' := hb.mv m
  have rb' := rb.mv m
  refine ⟨fun d e => ?_, fun e => ⟨us, vs, ha'.sq, hb'.sq, zip_stop ra.length rb.length e⟩⟩
  obtain ⟨x, y, e1, e2, rfl⟩ := zip_get e
  obtain ⟨v, e3, h3⟩ := ra'.get e1
  obtain ⟨w, e4, h4⟩ := rb'.get e2
  refine ⟨⟨us, vs, v, w, ha'.sq, hb'.sq, e3, e4⟩, fun x H2 y => .inr ?_⟩
  obtain ⟨T, p, q, rfl, hT, rfl, y1, y2⟩ := y
  have e5 := y1 us ha'.sq
  have e6 := y2 vs hb'.sq
  rw [e3] at e5
  rw [e4] at e6
  cases e5
  cases e6
  exact ⟨T, _, hT, rfl, newTup hT hx (.cons h3 (.cons h4 .nil))⟩
theorem itok_rev {a : Addr} {vs : List V} {ds : List D} (h : FzL K ex H1 a vs) (r : RepVs K mg φ ex H1 ds vs) : ItOk K mg φ ex (Itv K a vs.length) ds.reverse H1 := by
  intro φ' ex' H' m _ i
  have h' := h.mv m
  have r' := r.mv m
  refine ⟨fun d e => ?_, fun e => by rw [e, List.length_reverse, r.length]; exact Nat.le_refl _⟩
  have hi : i < ds.length := by
    have := (List.getElem?_eq_some_iff.mp e).1
    rwa [List.length_reverse] at this
  rw [List.getElem?_reverse hi] at e
  obtain ⟨v, e2, h1⟩ := r'.get e
  rw [r.length] at e2
  refine ⟨⟨by rw [← r.length]; exact hi, vs, v, h'.sq, e2⟩, fun x H2 y => .inl ?_⟩
  obtain ⟨rfl, y⟩ := y
  have e3 := y vs h'.sq
  rw [e2] at e3
  cases e3
  exact ⟨rfl, h1⟩
/-! a dict that is locked -/
theorem itok_keys {a : Addr} {o : Obj} {ks : List (Key × V)} {kvs : List (D × D)} (h : H1 a = some (.frz o (.dK ks))) (n : ¬ ex a) (r : RepK K mg φ ex H1 kvs ks) : ItOk K mg φ ex (Itk a o ks) (kvs.map (·.1)) H1 := by
  intro φ' ex' H' m _ i
  have h' := m.fr a _ h n
  have r' := RepK.mv m r
  refine ⟨fun d e => ?_, fun e => ⟨h', by rw [e, List.length_map, r.length]; exact Nat.le_refl _⟩⟩
  rw [List.getElem?_map] at e
  simp only [Option.map_eq_some_iff] at e
  obtain ⟨p, e1, rfl⟩ := e
  obtain ⟨q, e2, k1, _⟩ := r'.at e1
  refine ⟨⟨h', (List.getElem?_eq_some_iff.mp e2).1⟩, fun x H2 y => .inl ?_⟩
  obtain ⟨rfl, k, v, e3, rfl⟩ := y
  rw [e2] at e3
  cases e3
  exact ⟨rfl, toKey_rep k1⟩
theorem itok_vals {a : Addr} {o : Obj} {ks : List (Key × V)} {kvs : List (D × D)} (h : H1 a = some (.frz o (.dK ks))) (n : ¬ ex a) (r : RepK K mg φ ex H1 kvs ks) : ItOk K mg φ ex (Itd a o ks) (kvs.map (·.2)) H1 := by
  intro φ' ex' H' m _ i
  have h' := m.fr a _ h n
  have r' := RepK.mv m r
  refine ⟨fun d e => ?_, fun e => ⟨h', by rw [e, List.length_map, r.length]; exact Nat.le_refl _⟩⟩
  rw [List.getElem?_map] at e
  simp only [Option.map_eq_some_iff] at e
  obtain ⟨p, e1, rfl⟩ := e
  obtain ⟨q, e2, _, k2⟩ := r'.at e1
  refine ⟨⟨h', (List.getElem?_eq_some_iff.mp e2).1⟩, fun x H2 y => .inl ?_⟩
  obtain ⟨rfl, k, e3⟩ := y
  rw [e2] at e3
  cases e3
  exact ⟨rfl, k2⟩
theorem itok_items {a : Addr} {o : Obj} {ks : List (Key × V)} {kvs : List (D × D)} (h : H1 a = some (.frz o (.dK ks))) (n : ¬ ex a) (r : RepK K mg φ ex H1 kvs ks) : ItOk K mg φ ex (Iti a o ks) (kvs.map fun p => .tup [p.1, p.2]) H1 := by
  intro φ' ex' H' m hx i
  have h' := m.fr a _ h n
  have r' := RepK.mv m r
  refine ⟨fun d e => ?_, fun e => ⟨h', by rw [e, List.length_map, r.length]; exact Nat.le_refl _⟩⟩
  rw [List.getElem?_map] at e
  simp only [Option.map_eq_some_iff] at e
  obtain ⟨p, e1, rfl⟩ := e
  obtain ⟨q, e2, k1, k2⟩ := r'.at e1
  refine ⟨⟨h', (List.getElem?_eq_some_iff.mp e2).1⟩, fun x H2 y => .inr ?_⟩
  obtain ⟨T, k, v, e3, rfl, hT, rfl⟩ := y
  rw [e2] at e3
  cases e3
  exact ⟨T, _, hT, rfl, newTup hT hx (.cons (toKey_rep k1) (.cons k2 .nil))⟩
end

/-! ### a comprehension's block -/
theorem relabel_look {env : Env} {x : Str} {kd : NameKind} : ∀ {names : List (Str × NameKind)}, names.lookup x = some kd →
    ((names.map fun (n, k) => if (k == NameKind.free && env.scope.kind == .function && env.kindOf n == some .cell) then (n, NameKind.cell) else (n, k)).lookup x = some kd) ∨
    (kd = .free ∧ (names.map fun (n, k) => if (k == NameKind.free && env.scope.kind == .function && env.kindOf n == some .cell) then (n, NameKind.cell) else (n, k)).lookup x = some .cell)
  | [], h => by simp at h
  | (n, j) :: r, h => by
    have ih := @relabel_look env x kd r
    rw [List.lookup_cons] at h
    rw [List.map_cons]
    by_cases e : (x == n) = true
    · rw [e] at h
      cases h
      by_cases c : (kd == NameKind.free && env.scope.kind == .function && env.kindOf n == some .cell) = true
      · right
        simp only [Bool.and_eq_true, beq_iff_eq] at c
        refine ⟨c.1.1, ?_⟩
        simp [c, List.lookup_cons, e]
      · left
        simp [c, List.lookup_cons, e]
    · have e' : (x == n) = false := by simpa using e
      rw [e'] at h
      have q := ih h
      have skip : ∀ (y : Str × NameKind) (tl : List (Str × NameKind)), y.1 = n → List.lookup x (y :: tl) = List.lookup x tl := fun y tl hy => by
        obtain ⟨y1, y2⟩ := y
        subst hy
        rw [List.lookup_cons, e']
      rw [skip _ _ (by dsimp only; split <;> rfl)]
      exact q
theorem Good.blk {T : Tab} {k : Nat} {X : Cx} {sc scope : Scope} (g : Good T k X sc) (s : Shared) (H : Hp) (C : Addr) (cl : List (Str × Addr)) (fp : List Addr) :
    Good T k (X.blk s H scope (compEnvC scope cl C X.env) fp) scope where
  calm := g.calm
  nd := g.nd
  loc := fun x h => (relabel_look (env := X.env) h).elim id fun z => (nomatch z.1)
  cel := fun x h => (relabel_look (env := X.env) h).elim id fun z => (nomatch z.1)
  fre := fun x h => (relabel_look (env := X.env) h).elim .inr fun z => .inl z.2
  glo := fun x h => (relabel_look (env := X.env) h).elim id fun z => (nomatch z.1)
  fnc := fun x h => by
    show (scope.names.lookup x == some .cell) = true
    rw [h]
    rfl
  blt := g.blt
  room := g.room
  G := g.G
  F := g.F
  M := g.M
  A := g.A
  N := g.N
theorem Good.blkOk {T : Tab} {k : Nat} {X : Cx} {sc scope : Scope} {own : List (Str × Nat)} (g : Good T k X sc) (h : blkC X.N sc scope own = true) : BlkOk X.N X.env.scope scope own := by
  have b := blkOk_by h
  refine ⟨b.kind, b.uniq, b.ix, fun y hy e => ?_, b.own⟩
  rcases b.free y hy e with z | z
  · exact .inl (g.cel _ z)
  · exact g.fre _ z

/-! ### targets -/
theorem loc_of {T : Tab} {k : Nat} {X : Cx} {sc : Scope} (g : Good T k X sc) {x : Str} (h : (match sc.names.lookup x with
      | some .local => true
      | some .cell => true
      | _ => false) = true) : Loc X.env.scope x ∧ (X.fn x = true ∨ X.env.scope.names.lookup x = some .local) := by
  split at h
  · rename_i e
    exact ⟨.inl (g.loc x e), .inr (g.loc x e)⟩
  · rename_i e
    exact ⟨.inr (g.cel x e), .inl (g.fnc x e)⟩
  · cases h
/-- the slots of several names -/
def setVs : List Nat → List V → L2.St → L2.St
  | i :: is, v :: vs, σ => setVs is vs (σ.set i (some v))
  | _, _, σ => σ
def gAll (is : List Nat) : TGs := fun vs σ H Q => vs.length = is.length ∧ Q (setVs is vs σ) H
def gT (K : PySem.W.Frag) : Tg → TG
  | .one i => gName i
  | .many is => gTup K is.length (gAll is)
theorem pgs_all {T : Tab} {k : Nat} {X : Cx} {sc : Scope} (g : Good T k X sc) : ∀ {is : List Nat} {es : List Expr}, es.length = is.length → ((is.zip es).all fun p => match p.2 with
    | .Name x _ => decide (X.N[p.1]? = some x)
    | _ => false) = true → (es.all fun e => match e with
    | .Name x _ => (match sc.names.lookup x with
      | some .local => true
      | some .cell => true
      | _ => false)
    | _ => false) = true → PGs X es (gAll is)
  | [], [], _, _, _ => ⟨fun pins s σ H vs us Q I r h => pgs_nil.run pins s σ H vs us Q I r ⟨List.eq_nil_of_length_eq_zero h.1, by
      obtain ⟨h1, h2⟩ := h
      cases vs with
      | nil => exact h2
      | cons v r => cases h1⟩⟩
  | [], _ :: _, hl, _, _ => by cases hl
  | _ :: _, [], hl, _, _ => by cases hl
  | i :: is, e :: es, hl, h1, h2 => by
    rw [List.zip_cons_cons, List.all_cons, Bool.and_eq_true] at h1
    rw [List.all_cons, Bool.and_eq_true] at h2
    have ih := pgs_all g (is := is) (es := es) (by simpa using hl) h1.2 h2.2
    cases e with
    | Name x p =>
      obtain ⟨l1, l2⟩ := loc_of g h2.1
      have hx : X.N[i]? = some x := of_decide_eq_true h1.1
      refine ⟨fun pins s σ H vs us Q I r h => (pgs_cons (pg_name g.nd hx l1 l2) ih).run pins s σ H vs us Q I r ?_⟩
      obtain ⟨q1, q2⟩ := h
      cases vs with
      | nil => cases q1
      | cons v vs => exact ⟨v, vs, rfl, by simpa using q1, q2⟩
    | _ => exact absurd h1.1 (by simp)
theorem assignEach_len {env : Env} : ∀ (es : List Expr), (assignEach es env).length = es.length
  | [] => rfl
  | e :: es => by
    have ih := assignEach_len (env := env) es
    cases e <;> (show (_ :: assignEach es env).length = _; rw [List.length_cons, ih]; rfl)
theorem assignEach_nostar {env : Env} : ∀ {es : List Expr}, (∀ e ∈ es, ∃ x p, e = .Name x p) → (assignEach es env).findIdx? (·.1) = none
  | [], _ => rfl
  | e :: es, h => by
    obtain ⟨x, p, rfl⟩ := h e List.mem_cons_self
    have ih := assignEach_nostar (env := env) fun e he => h e (List.mem_cons_of_mem _ he)
    show List.findIdx? (·.1) ((false, assign (.Name x p) env) :: assignEach es env) = none
    rw [List.findIdx?_cons]
    simp [ih]
theorem pg_tg {T : Tab} {k : Nat} {X : Cx} {sc : Scope} (g : Good T k X sc) {t : Tg} {e : Expr} (h1 : tgN X.N t e = true) (h2 : tgLoc sc e = true) : PG X e (gT X.K t) := by
  cases t with
  | one i =>
    cases e with
    | Name x p =>
      obtain ⟨l1, l2⟩ := loc_of g h2
      exact pg_name g.nd (of_decide_eq_true h1) l1 l2
    | _ => cases h1
  | many is =>
    cases e with
    | Tuple es n p =>
      have h1' : (decide (es.length = is.length) && ((is.zip es).all fun p => match p.2 with
        | .Name x _ => decide (X.N[p.1]? = some x)
        | _ => false)) = true := h1
      rw [Bool.and_eq_true] at h1'
      have hl : es.length = is.length := of_decide_eq_true h1'.1
      have nm : ∀ e ∈ es, ∃ x p, e = .Name x p := fun e he => by
        have := List.all_eq_true.mp h2 e he
        cases e with
        | Name x p => exact ⟨x, p, rfl⟩
        | _ => cases this
      exact pg_tup g.calm (pgs_all g hl h1'.2 h2) (by rw [assignEach_len]; exact hl) (assignEach_nostar nm)
    | _ => cases h1
end Sk

/-! Sk7: stores into slots; a comprehension's turns. -/
namespace Sk
open PySem PySem.Spec PyProof.Rows L2

section
variable {K : PySem.W.Frag} {mg : Str → Option Value} {φ φ' : List Addr} {out : Addr → Prop} {ρ ρ' : Env'} {S S' : Sto} {σ σ' : L2.St} {H H' : Hp}
/-- a slot changes: what it held is forgotten; s is what stands there now -/
theorem Rel.slot (R : Rel K mg φ out ρ S σ H) {i : Nat} {s : Sl} {o : Option V} (hs : s = .no ∨ ∃ d v, s = .va d ∧ o = some v ∧ RepV K mg φ (exc φ out ρ σ) H d v) :
    Rel K mg φ out (ρ.set i s) S (σ.set i o) H ∧ (∀ b, ownA (ρ.set i s) (σ.set i o) b → ownA ρ σ b) := by
  have hn : ∀ d, s ≠ .ow d := fun d z => by
    rcases hs with q | ⟨d', v, q, _⟩ <;> (rw [q] at z; cases z)
  have sub : ∀ {j : Nat} {d : D}, (ρ.set i s)[j]? = some (.ow d) → i ≠ j ∧ ρ[j]? = some (.ow d) := fun {j d} e => by
    by_cases z : i = j
    · subst z
      by_cases hl : i < ρ.length
      · rw [List.getElem?_set_self hl] at e
        exact absurd (Option.some.inj e) (hn d)
      · rw [List.getElem?_eq_none (by simpa using hl)] at e
        cases e
    · rw [List.getElem?_set_ne z] at e
      exact ⟨z, e⟩
  have own : ∀ b, ownA (ρ.set i s) (σ.set i o) b → ownA ρ σ b := fun b ⟨j, d, e1, e2⟩ => by
    obtain ⟨z, e⟩ := sub e1
    rw [List.getElem?_set_ne z] at e2
    exact ⟨j, d, e, e2⟩
  have m : Mv φ φ (exc φ out ρ σ) (exc φ out (ρ.set i s) (σ.set i o)) H H := .less fun b z => z.imp id fun z => z.imp id (own b)
  refine ⟨⟨by rw [List.length_set, List.length_set]; exact R.len, fun j d e => ?_, fun j d e => ?_, fun a b c d e q1 q2 q3 q4 => ?_, fun n ob e => ?_, R.sl, R.nd, R.no, R.ot⟩, own⟩
  · by_cases z : i = j
    · subst z
      by_cases hl : i < ρ.length
      · rw [List.getElem?_set_self hl] at e
        rcases hs with q | ⟨d', v, q, ho, h⟩
        · rw [q] at e; cases e
        · rw [q] at e
          cases e
          exact ⟨v, by rw [List.getElem?_set_self (by rw [← R.len]; exact hl), ho], h.mv m⟩
      · rw [List.getElem?_eq_none (by simpa using hl)] at e
        cases e
    · rw [List.getElem?_set_ne z] at e
      obtain ⟨v, e1, h⟩ := R.va j d e
      exact ⟨v, by rw [List.getElem?_set_ne z]; exact e1, h.mv m⟩
  · obtain ⟨z, e'⟩ := sub e
    obtain ⟨a, e1, h1, h2⟩ := R.ow j d e'
    exact ⟨a, by rw [List.getElem?_set_ne z]; exact e1, h1.mv m fun _ q => q, h2⟩
  · obtain ⟨z1, r1⟩ := sub q1
    obtain ⟨z2, r2⟩ := sub q2
    rw [List.getElem?_set_ne z1] at q3
    rw [List.getElem?_set_ne z2] at q4
    exact R.owi a b c d e r1 r2 q3 q4
  · obtain ⟨a, e1, h1⟩ := R.st n ob e
    exact ⟨a, e1, h1.mv m fun _ q => q⟩
theorem own_mv (own : ∀ b, ownA ρ' σ' b → ownA ρ σ b) : Mv φ φ (exc φ out ρ σ) (exc φ out ρ' σ') H H := .less fun b z => z.imp id fun z => z.imp id (own b)
theorem own_stp (own : ∀ b, ownA ρ' σ' b → ownA ρ σ b) : Stp φ ρ σ H φ ρ' σ' H := ⟨fun _ _ e => e, fun _ h => .inl h, fun _ _ e _ _ => e, fun b h => .inl (own b h), fun _ h => h⟩
theorem Rel.slots : ∀ {is : List Nat} {ds : List D} {vs : List V} {ρ ρ' : Env'} {σ : L2.St}, Rel K mg φ out ρ S σ H → RepVs K mg φ (exc φ out ρ σ) H ds vs → setAll is ds ρ = some ρ' →
    Rel K mg φ out ρ' S (setVs is vs σ) H ∧ (∀ b, ownA ρ' (setVs is vs σ) b → ownA ρ σ b)
  | [], _, _, _, _, _, R, .nil, e => by
    cases e
    exact ⟨R, fun _ z => z⟩
  | [], _, _, _, _, _, _, .cons _ _, e => by cases e
  | _ :: _, _, _, _, _, _, _, .nil, e => by cases e
  | i :: is, _, _, ρ, ρ', σ, R, .cons (d := d) (v := v) (ds := ds) (vs := vs) h r, e => by
    obtain ⟨R1, own⟩ := R.slot (i := i) (s := .va d) (o := some v) (.inr ⟨d, v, rfl, rfl, h⟩)
    obtain ⟨R2, own2⟩ := Rel.slots R1 (r.mv (own_mv own)) e
    exact ⟨R2, fun b z => own b (own2 b z)⟩
theorem setAll_len : ∀ {is : List Nat} {ds : List D} {ρ ρ' : Env'}, setAll is ds ρ = some ρ' → ds.length = is.length
  | [], [], _, _, _ => rfl
  | [], _ :: _, _, _, e => by cases e
  | _ :: _, [], _, _, e => by cases e
  | _ :: is, _ :: ds, _, _, e => congrArg (· + 1) (setAll_len (is := is) (ds := ds) e)
theorem bindT_many {is : List Nat} {d : D} {ρ ρ' : Env'} (e : bindT (.many is) d ρ = some ρ') : ∃ ds, d = .tup ds ∧ setAll is ds ρ = some ρ' := by
  cases d with
  | tup ds => exact ⟨ds, rfl, e⟩
  | _ => cases e
/-- a target is bound -/
theorem bind_ok (R : Rel K mg φ out ρ S σ H) {t : Tg} {d : D} {v : V} (h : RepV K mg φ (exc φ out ρ σ) H d v) (e : bindT t d ρ = some ρ') {Q : L2.St → Hp → Prop}
    (q : ∀ σ', Rel K mg φ out ρ' S σ' H → (∀ b, ownA ρ' σ' b → ownA ρ σ b) → (∀ i, i ∉ t.ixs → σ'[i]? = σ[i]?) → σ'.length = σ.length → Q σ' H) : gT K t v σ H Q := by
  have sv : ∀ (is : List Nat) (vs : List V) (σ : L2.St), (∀ i, i ∉ is → (setVs is vs σ)[i]? = σ[i]?) ∧ (setVs is vs σ).length = σ.length := by
    intro is
    induction is with
    | nil => intro vs σ; exact ⟨fun _ _ => by cases vs <;> rfl, by cases vs <;> rfl⟩
    | cons j is ih =>
      intro vs σ
      cases vs with
      | nil => exact ⟨fun _ _ => rfl, rfl⟩
      | cons v vs =>
        obtain ⟨h1, h2⟩ := ih vs (σ.set j (some v))
        refine ⟨fun i hi => ?_, ?_⟩
        · simp only [List.mem_cons, not_or] at hi
          show (setVs is vs (σ.set j (some v)))[i]? = _
          rw [h1 i hi.2, List.getElem?_set_ne (Ne.symm hi.1)]
        · show (setVs is vs (σ.set j (some v))).length = _
          rw [h2, List.length_set]
  cases t with
  | one i =>
    cases e
    obtain ⟨R1, own⟩ := R.slot (i := i) (s := .va d) (o := some v) (.inr ⟨d, v, rfl, rfl, h⟩)
    refine q _ R1 own (fun j hj => ?_) (List.length_set ..)
    have hj' : j ≠ i := by simpa [Tg.ixs] using hj
    rw [List.getElem?_set_ne (Ne.symm hj')]
  | many is =>
    obtain ⟨ds, rfl, e'⟩ := bindT_many e
    obtain ⟨a, vs, rfl, h, r⟩ := tup_inv h
    obtain ⟨R1, own⟩ := R.slots r e'
    obtain ⟨s1, s2⟩ := sv is vs σ
    have hl := setAll_len e'
    exact ⟨_, _, rfl, h.sq, by rw [← r.length]; exact hl, by rw [← r.length]; exact hl, q _ R1 own s1 s2⟩
theorem wipeT_get : ∀ {is : List Nat} {ρ : Env'} {i : Nat}, (i ∉ is → (wipeT is ρ)[i]? = ρ[i]?) ∧ (i ∈ is → ∀ s, (wipeT is ρ)[i]? = some s → s = .no) ∧ (wipeT is ρ).length = ρ.length
  | [], ρ, i => ⟨fun _ => rfl, fun h => (nomatch h), rfl⟩
  | j :: is, ρ, i => by
    obtain ⟨h1, h2, h3⟩ := wipeT_get (is := is) (ρ := ρ.set j .no) (i := i)
    have e : wipeT (j :: is) ρ = wipeT is (ρ.set j .no) := rfl
    rw [e]
    refine ⟨fun h => ?_, fun h s hs => ?_, by rw [h3, List.length_set]⟩
    · simp only [List.mem_cons, not_or] at h
      rw [h1 h.2, List.getElem?_set_ne (Ne.symm h.1)]
    · by_cases q : i ∈ is
      · exact h2 q s hs
      · rcases List.mem_cons.mp h with z | z
        · subst z
          rw [h1 q] at hs
          by_cases hl : i < ρ.length
          · rw [List.getElem?_set_self hl] at hs
            exact (Option.some.inj hs).symm
          · rw [List.getElem?_eq_none (by simpa using hl)] at hs
            cases hs
        · exact absurd z q
theorem wipe_get {σ : L2.St} : ∀ {is : List Nat} {i : Nat}, i ∉ is → (wipe σ is)[i]? = σ[i]?
  | [], _, _ => rfl
  | j :: is, i, h => by
    simp only [List.mem_cons, not_or] at h
    show ((wipe σ is).set j none)[i]? = _
    rw [List.getElem?_set_ne (Ne.symm h.1), wipe_get h.2]
/-- slots wiped -/
theorem Rel.wiped (R : Rel K mg φ out ρ S σ H) {is : List Nat} {σ2 : L2.St} (hs : ∀ i, i ∉ is → σ2[i]? = σ[i]?) (hl : σ2.length = σ.length) : Rel K mg φ out (wipeT is ρ) S σ2 H ∧ (∀ b, ownA (wipeT is ρ) σ2 b → ownA ρ σ b) := by
  have keep : ∀ {j : Nat} {s : Sl}, (wipeT is ρ)[j]? = some s → s ≠ .no → j ∉ is ∧ ρ[j]? = some s ∧ σ2[j]? = σ[j]? := fun {j s} e n => by
    have hj : j ∉ is := fun z => n (wipeT_get.2.1 z s e)
    exact ⟨hj, by rw [← wipeT_get.1 hj]; exact e, hs j hj⟩
  have own : ∀ b, ownA (wipeT is ρ) σ2 b → ownA ρ σ b := fun b ⟨j, d, e1, e2⟩ => by
    obtain ⟨_, q1, q2⟩ := keep e1 fun z => (nomatch z)
    exact ⟨j, d, q1, q2 ▸ e2⟩
  have m : Mv φ φ (exc φ out ρ σ) (exc φ out (wipeT is ρ) σ2) H H := own_mv own
  refine ⟨⟨by rw [(wipeT_get (i := 0)).2.2, hl]; exact R.len, fun j d e => ?_, fun j d e => ?_, fun a b c d e q1 q2 q3 q4 => ?_, fun n ob e => ?_, R.sl, R.nd, R.no, R.ot⟩, own⟩
  · obtain ⟨_, q1, q2⟩ := keep e fun z => (nomatch z)
    obtain ⟨v, e1, h⟩ := R.va j d q1
    exact ⟨v, q2.trans e1, h.mv m⟩
  · obtain ⟨_, q1, q2⟩ := keep e fun z => (nomatch z)
    obtain ⟨a, e1, h1, h2⟩ := R.ow j d q1
    exact ⟨a, q2.trans e1, h1.mv m fun _ q => q, h2⟩
  · obtain ⟨_, r1, s1⟩ := keep q1 fun z => (nomatch z)
    obtain ⟨_, r2, s2⟩ := keep q2 fun z => (nomatch z)
    exact R.owi a b c d e r1 r2 (s1 ▸ q3) (s2 ▸ q4)
  · obtain ⟨a, e1, h1⟩ := R.st n ob e
    exact ⟨a, e1, h1.mv m fun _ q => q⟩
theorem backT_get : ∀ {is : List Nat} {ρ ρ' : Env'} {i : Nat}, ρ'.length = ρ.length → (i ∉ is → (backT is ρ ρ')[i]? = ρ'[i]?) ∧ (i ∈ is → (backT is ρ ρ')[i]? = ρ[i]?) ∧ (backT is ρ ρ').length = ρ.length
  | [], ρ, ρ', i, hl => ⟨fun _ => rfl, fun h => (nomatch h), hl⟩
  | j :: is, ρ, ρ', i, hl => by
    have e : backT (j :: is) ρ ρ' = backT is ρ (match ρ[j]? with
      | some s => ρ'.set j s
      | none => ρ') := rfl
    rw [e]
    have hl' : (match ρ[j]? with
      | some s => ρ'.set j s
      | none => ρ').length = ρ.length := by
      cases ρ[j]? with
      | none => exact hl
      | some s => exact (List.length_set ..).trans hl
    obtain ⟨h1, h2, h3⟩ := backT_get (is := is) (i := i) hl'
    refine ⟨fun h => ?_, fun h => ?_, h3⟩
    · simp only [List.mem_cons, not_or] at h
      rw [h1 h.2]
      cases ρ[j]? with
      | none => rfl
      | some s => exact List.getElem?_set_ne (Ne.symm h.1)
    · by_cases q : i ∈ is
      · exact h2 q
      · rcases List.mem_cons.mp h with z | z
        · subst z
          rw [h1 q]
          cases hq : ρ[i]? with
          | none =>
            have : ρ.length ≤ i := List.getElem?_eq_none_iff.mp hq
            exact List.getElem?_eq_none_iff.mpr (by rw [hl]; exact this)
          | some s =>
            have : i < ρ.length := (List.getElem?_eq_some_iff.mp hq).1
            exact List.getElem?_set_self (by rw [hl]; exact this)
        · exact absurd z q
end
end Sk

/-! Sk8: list comprehensions. -/
namespace Sk
open PySem PySem.Spec PyProof.Rows L2

section
variable {K : PySem.W.Frag} {mg : Str → Option Value} {φ φ' φ1 : List Addr} {out out' : Addr → Prop} {ρ ρ' ρ1 ρ2 : Env'} {S S' S1 S2 : Sto} {σ σ' : L2.St} {H H' H1 : Hp}
/-- what nobody holds yet is written -/
theorem Stp.outUpd {D : Addr} {ho : HO} (t : Stp φ ρ σ H φ' ρ' σ' H') (h : H D = none) : Stp φ ρ σ H φ' ρ' σ' (upd H' D ho) :=
  ⟨t.pre, t.nw, fun b o e n1 n2 => by rw [upd_ne (fun z => by rw [z, h] at e; cases e)]; exact t.fr b o e n1 n2, t.on, fun b z => by
    by_cases q : b = D
    · rw [q, upd_same]; exact fun z => nomatch z
    · rw [upd_ne q]; exact t.kp b z⟩
theorem Rel.outUpd (R : Rel K mg φ out ρ S σ H) {D : Addr} {ho : HO} (h : out D) : Rel K mg φ out ρ S σ (upd H D ho) := by
  have m : Mv φ φ (exc φ out ρ σ) (exc φ out ρ σ) H (upd H D ho) := upd_mv (.inr (.inl h))
  refine ⟨R.len, fun i d e => ?_, fun i d e => ?_, R.owi, fun n o e => ?_, R.sl, R.nd, R.no, fun a z => ?_⟩
  · obtain ⟨v, e1, h1⟩ := R.va i d e
    exact ⟨v, e1, h1.mv m⟩
  · obtain ⟨a, e1, h1, h2, h3⟩ := R.ow i d e
    exact ⟨a, e1, h1.mv m fun w hw => by rw [upd_ne (fun z : a = D => h3 (z ▸ h))]; exact hw, h2, h3⟩
  · obtain ⟨a, e1, h1⟩ := R.st n o e
    exact ⟨a, e1, h1.mv m fun w hw => by rw [upd_ne (fun z : a = D => R.no a (List.mem_of_getElem? e1) (z ▸ h))]; exact hw⟩
  · by_cases q : a = D
    · rw [q, upd_same]; exact fun z => nomatch z
    · rw [upd_ne q]; exact R.ot a z
/-- what nobody holds yet stays -/
theorem Rel.outKeep (R : Rel K mg φ out ρ S σ H) {D : Addr} {w : HO} (h : out D) (e : H D = some w) (t : Stp φ ρ σ H φ' ρ' σ' H') : H' D = some w :=
  t.fr D w e (fun z => R.no D z h) fun ⟨i, d, e1, e2⟩ => by
    obtain ⟨a, e3, _, _, q⟩ := R.ow i d e1
    rw [e2] at e3
    cases e3
    exact q h
/-- the slots come back -/
theorem Rel.back {is : List Nat} (R1 : Rel K mg φ1 out ρ1 S1 σ H1) (R2 : Rel K mg φ' out' ρ2 S2 (wipe σ is) H') (m : Mv φ1 φ' (exc φ1 out ρ1 σ) (exc φ' out' ρ2 (wipe σ is)) H1 H') (no : noOw is ρ1 = true) :
    Rel K mg φ' out' (backT is ρ1 ρ2) S2 σ H' ∧ (∀ b, ownA (backT is ρ1 ρ2) σ b → ownA ρ2 (wipe σ is) b) := by
  have hl : ρ2.length = ρ1.length := by rw [R2.len, wipe_length, R1.len]
  have g := fun (i : Nat) => backT_get (is := is) (ρ := ρ1) (ρ' := ρ2) (i := i) hl
  have nw : ∀ {i : Nat} {d : D}, (backT is ρ1 ρ2)[i]? = some (.ow d) → i ∉ is := fun {i d} e z => by
    rw [(g i).2.1 z] at e
    have := List.all_eq_true.mp no i z
    rw [e] at this
    cases this
  have keep : ∀ {i : Nat} {d : D}, (backT is ρ1 ρ2)[i]? = some (.ow d) → ρ2[i]? = some (.ow d) ∧ (wipe σ is)[i]? = σ[i]? := fun {i d} e => ⟨by rw [← (g i).1 (nw e)]; exact e, wipe_get (nw e)⟩
  have own : ∀ b, ownA (backT is ρ1 ρ2) σ b → ownA ρ2 (wipe σ is) b := fun b ⟨j, d, e1, e2⟩ => by
    obtain ⟨q1, q2⟩ := keep e1
    exact ⟨j, d, q1, q2.trans e2⟩
  have m2 : Mv φ' φ' (exc φ' out' ρ2 (wipe σ is)) (exc φ' out' (backT is ρ1 ρ2) σ) H' H' := own_mv own
  refine ⟨⟨by rw [(g 0).2.2]; exact R1.len, fun j d e => ?_, fun j d e => ?_, fun a b c d e q1 q2 q3 q4 => ?_, fun n ob e => ?_, R2.sl, R2.nd, R2.no, R2.ot⟩, own⟩
  · by_cases z : j ∈ is
    · rw [(g j).2.1 z] at e
      obtain ⟨v, e1, h⟩ := R1.va j d e
      exact ⟨v, e1, (h.mv m).mv m2⟩
    · rw [(g j).1 z] at e
      obtain ⟨v, e1, h⟩ := R2.va j d e
      exact ⟨v, (wipe_get z).symm.trans e1, h.mv m2⟩
  · obtain ⟨q1, q2⟩ := keep e
    obtain ⟨a, e1, h1, h2⟩ := R2.ow j d q1
    exact ⟨a, q2.symm.trans e1, h1.mv m2 fun _ q => q, h2⟩
  · obtain ⟨r1, s1⟩ := keep q1
    obtain ⟨r2, s2⟩ := keep q2
    exact R2.owi a b c d e r1 r2 (s1.trans q3) (s2.trans q4)
  · obtain ⟨a, e1, h1⟩ := R2.st n ob e
    exact ⟨a, e1, h1.mv m2 fun _ q => q⟩
end
theorem wipe_in : ∀ {is : List Nat} {σ : L2.St} {i : Nat}, i ∈ is → i < σ.length → (wipe σ is)[i]? = some none
  | [], _, _, h, _ => nomatch h
  | j :: is, σ, i, h, hl => by
    show ((wipe σ is).set j none)[i]? = _
    by_cases z : j = i
    · subst z
      exact List.getElem?_set_self (by rw [wipe_length]; exact hl)
    · rw [List.getElem?_set_ne z]
      rcases List.mem_cons.mp h with q | q
      · exact absurd q.symm z
      · exact wipe_in q hl
theorem wipe_same {is : List Nat} {σ σ' : L2.St} (h : ∀ i, i ∉ is → σ'[i]? = σ[i]?) (hl : σ'.length = σ.length) : wipe σ' is = wipe σ is := by
  apply List.ext_getElem?
  intro i
  by_cases z : i ∈ is
  · by_cases q : i < σ.length
    · rw [wipe_in z (hl ▸ q), wipe_in z q]
    · rw [List.getElem?_eq_none (by rw [wipe_length, hl]; omega), List.getElem?_eq_none (by rw [wipe_length]; omega)]
  · rw [wipe_get z, wipe_get z, h i z]
theorem wipe_idem {is : List Nat} {σ : L2.St} : wipe (wipe σ is) is = wipe σ is := wipe_same (fun _ h => wipe_get h) (wipe_length ..)

section
variable (T : Tab) (k : Nat) (X : Cx)
abbrev evc (c : List CE) (ρ : Env') (S : Sto) := evC T.G (callK T.G T.F T.M k) T.M c ρ S
def TCv (cs : List CE) : TT := fun σ H Q => ∃ φ out ρ S b ρ' S', Rel X.K X.mg φ out ρ S σ H ∧ evc T k cs ρ S = some (b, ρ', S') ∧ ∀ H' φ', Stp φ ρ σ H φ' ρ' σ H' → Rel X.K X.mg φ' out ρ' S' σ H' → Q b H'
abbrev lcOne (elt : CE) (cs : List CE) : Env' → Sto → Option (Option D × Env' × Sto) := fun ρ S => bnd (evc T k cs ρ S) fun b ρ S => (match b with
        | true => bnd (ev T k elt ρ S) fun x ρ S => obd x.d fun d => some (some d, ρ, S)
        | false => some (none, ρ, S))
end
section
variable {T : Tab} {k : Nat} {X : Cx} {φ : List Addr} {out : Addr → Prop} {ρ ρ1 ρ' : Env'} {S S1 S' : Sto} {σ : L2.St} {H : Hp}
theorem lcOne_inv {elt : CE} {cs : List CE} {r : Option D × Env' × Sto} (e : lcOne T k elt cs ρ S = some r) : ∃ b ρ2 S2, evc T k cs ρ S = some (b, ρ2, S2) ∧ ((b = false ∧ r = (none, ρ2, S2)) ∨ (b = true ∧ ∃ x ρ3 S3 d, ev T k elt ρ2 S2 = some (x, ρ3, S3) ∧ x.d = some d ∧ r = (some d, ρ3, S3))) := by
  obtain ⟨b, ρ2, S2, e1, e2⟩ := bnd_inv e
  refine ⟨b, ρ2, S2, e1, ?_⟩
  cases b with
  | false => exact .inl ⟨rfl, (Option.some.inj e2).symm⟩
  | true =>
    obtain ⟨x, ρ3, S3, e3, e4⟩ := bnd_inv e2
    obtain ⟨d, e5, e6⟩ := obd_inv e4
    exact .inr ⟨rfl, x, ρ3, S3, d, e3, e5, (Option.some.inj e6).symm⟩
theorem lcL_cons {tg : Tg} {one : Env' → Sto → Option (Option D × Env' × Sto)} {d : D} {ds acc : List D} {q : List D × Env' × Sto} (e : lcL tg one (d :: ds) acc ρ S = some q) :
    ∃ ρ1 r ρ2 S2, bindT tg d ρ = some ρ1 ∧ one ρ1 S = some (r, ρ2, S2) ∧ ((r = none ∧ lcL tg one ds acc (wipeT tg.ixs ρ2) S2 = some q) ∨ ∃ x, r = some x ∧ acc.length < sizeLine ∧ lcL tg one ds (acc ++ [x]) (wipeT tg.ixs ρ2) S2 = some q) := by
  obtain ⟨ρ1, e1, e2⟩ := obd_inv e
  obtain ⟨r, ρ2, S2, e3, e4⟩ := bnd_inv e2
  refine ⟨ρ1, r, ρ2, S2, e1, e3, ?_⟩
  cases r with
  | none => exact .inl ⟨rfl, e4⟩
  | some x =>
    dsimp only at e4
    split at e4
    · rename_i h
      exact .inr ⟨x, rfl, h, e4⟩
    · cases e4
/-- the turns of a comprehension -/
theorem lc_walk {tg : Tg} {elt : CE} {cs : List CE} {ds r : List D} {Q : VK} {J : It} {H1 : Hp} {φ1 : List Addr} {D : Addr} (no : noOw tg.ixs ρ1 = true)
    (el : lcL tg (lcOne T k elt cs) ds [] (wipeT tg.ixs ρ1) S1 = some (r, ρ', S')) (q : ∀ v H' φ', Post X.K X.mg φ out ρ σ H (.fr (.lst r)) (backT tg.ixs ρ1 ρ') S' v H' φ' → Q v H')
    (t1 : Stp φ ρ σ H φ1 ρ1 σ H1) (R1 : Rel X.K X.mg φ1 out ρ1 S1 σ H1) (ok : ItOk X.K X.mg φ1 (exc φ1 out ρ1 σ) J ds H1) (hD : H1 D = none) :
    ∃ W : Nat → Nat → Hp → Prop, (∃ m, W 0 m (upd H1 D (.lst []))) ∧ ∀ i m H, W i m H →
      (J.stop i H ∧ Q (.ref D) H) ∨ (J.go i H ∧ ∃ Nx : Hp → Prop, (∀ H', Nx H' → ∃ m', m' < m ∧ W (i + 1) m' H') ∧ ∀ x H', J.yld i H x H' → gT X.K tg x (wipe σ tg.ixs) H' fun σ2 H2 => wipe σ2 tg.ixs = wipe σ tg.ixs ∧ TCv T k X cs σ2 H2 fun b H3 =>
        if b = true then TEv T k X elt σ2 H3 fun y H4 => ∃ acc, H4 D = some (.lst acc) ∧ acc.length < sizeLine ∧ Nx (upd H4 D (.lst (acc ++ [y]))) else Nx H3) := by
  generalize hvs : tg.ixs = vs at no el q ⊢
  let out2 : Addr → Prop := fun b => out b ∨ b = D
  let W : Nat → Nat → Hp → Prop := fun i m Hc => m = ds.length - i ∧ i ≤ ds.length ∧ ∃ φ' ρ2 S2 acc vacc, Rel X.K X.mg φ' out2 ρ2 S2 (wipe σ vs) Hc ∧ Stp φ1 ρ1 σ H1 φ' ρ2 (wipe σ vs) Hc ∧ Hc D = some (.lst vacc) ∧
    RepVs X.K X.mg φ' (exc φ' out2 ρ2 (wipe σ vs)) Hc acc vacc ∧ lcL tg (lcOne T k elt cs) (ds.drop i) acc ρ2 S2 = some (r, ρ', S')
  have ho : ∀ a, out2 a → out a ∨ H1 a = none := fun a (z : out a ∨ a = D) => z.elim .inl fun (z : a = D) => .inr (by rw [z]; exact hD)
  refine ⟨W, ⟨ds.length, by omega, Nat.zero_le _, φ1, wipeT vs ρ1, S1, [], [], ?_, ?_, upd_same, .nil, el⟩, ?_⟩
  · exact ((R1.wiped (is := vs) (fun i hi => wipe_get hi) (wipe_length ..)).1).newOut hD
  · exact (own_stp (R1.wiped (is := vs) (fun i hi => wipe_get hi) (wipe_length ..)).2).trans (new_stp hD)
  rintro i m Hc ⟨rfl, hi, φ', ρ2, S2, acc, vacc, Rc, tc, eD, ra, e⟩
  have mc := tc.mv R1 ho
  have oks := ok φ' _ Hc mc (fun b z => Rc.ex_some z) i
  by_cases hlt : i < ds.length
  · right
    have ed : ds[i]? = some ds[i] := List.getElem?_eq_getElem hlt
    obtain ⟨go, yld⟩ := oks.1 _ ed
    refine ⟨go, fun H' => W (i + 1) (ds.length - (i + 1)) H', fun H' w => ⟨_, by omega, w⟩, fun x H' y => ?_⟩
    rw [List.drop_eq_getElem_cons hlt] at e
    obtain ⟨ρ3, w, ρ4, S4, e1, e2, e3⟩ := lcL_cons e
    rw [hvs] at e3
    have turn : ∀ H', Rel X.K X.mg φ' out2 ρ2 S2 (wipe σ vs) H' → Stp φ1 ρ1 σ H1 φ' ρ2 (wipe σ vs) H' → H' D = some (.lst vacc) → RepVs X.K X.mg φ' (exc φ' out2 ρ2 (wipe σ vs)) H' acc vacc → RepV X.K X.mg φ' (exc φ' out2 ρ2 (wipe σ vs)) H' ds[i] x →
        gT X.K tg x (wipe σ vs) H' fun σ2 H2 => wipe σ2 vs = wipe σ vs ∧ TCv T k X cs σ2 H2 fun b H3 =>
          if b = true then TEv T k X elt σ2 H3 fun y H4 => ∃ acc, H4 D = some (.lst acc) ∧ acc.length < sizeLine ∧ W (i + 1) (ds.length - (i + 1)) (upd H4 D (.lst (acc ++ [y]))) else W (i + 1) (ds.length - (i + 1)) H3 := by
      intro H' R' t' eD' ra' rx
      refine bind_ok R' rx e1 fun σ2 R2 own2 same len => ?_
      rw [hvs] at same
      have hw : wipe σ2 vs = wipe σ vs := by rw [wipe_same same len, wipe_idem]
      have t2 : Stp φ1 ρ1 σ H1 φ' ρ3 σ2 H' := t'.trans (own_stp own2)
      have ra2 := ra'.mv (own_mv (φ := φ') (out := out2) (H := H') own2)
      refine ⟨hw, ?_⟩
      obtain ⟨b, ρ5, S5, c1, c2⟩ := lcOne_inv e2
      refine ⟨φ', out2, ρ3, S2, b, ρ5, S5, R2, c1, fun H3 φ3 t3 R3 => ?_⟩
      have hD2 : out2 D := .inr rfl
      have eD3 := R2.outKeep hD2 eD' t3
      have ra3 := ra2.mv (t3.mv R2 fun _ z => .inl z)
      have wp : ∀ {φ4 ρ6 S6 H4}, Rel X.K X.mg φ4 out2 ρ6 S6 σ2 H4 → Rel X.K X.mg φ4 out2 (wipeT vs ρ6) S6 (wipe σ vs) H4 ∧ ∀ b, ownA (wipeT vs ρ6) (wipe σ vs) b → ownA ρ6 σ2 b := fun {φ4 ρ6 S6 H4} R6 =>
        R6.wiped (is := vs) (fun i hi => by rw [← hw]; exact wipe_get hi) (by rw [← hw]; exact wipe_length ..)
      rcases c2 with ⟨rfl, c2⟩ | ⟨rfl, x, ρ6, S6, d, c3, c4, c2⟩
      · cases c2
        rcases e3 with ⟨_, e3⟩ | ⟨_, z, _⟩
        · obtain ⟨R6, own6⟩ := wp R3
          show W (i + 1) (ds.length - (i + 1)) H3
          exact ⟨rfl, hlt, φ3, wipeT vs ρ4, S4, acc, vacc, R6, (t2.trans t3).trans (own_stp own6), eD3, ra3.mv (own_mv own6), e3⟩
        · cases z
      · cases c2
        rcases e3 with ⟨z, _⟩ | ⟨x', z, hz, e3⟩
        · cases z
        · cases z
          show TEv T k X elt σ2 H3 _
          refine ⟨φ3, out2, ρ5, S5, x, _, _, R3, c3, fun y H4 φ4 p => ?_⟩
          have eD4 := R3.outKeep hD2 eD3 p.stp
          have ra4 := ra3.mv (p.stp.mv R3 fun _ z => .inl z)
          have ry := ROp.toV p.rel p.val c4
          refine ⟨vacc, eD4, by rw [← ra4.length]; exact hz, rfl, hlt, φ4, wipeT vs ρ4, S4, acc ++ [d], vacc ++ [y], ?_, ?_, upd_same, ?_, e3⟩
          · exact (wp (p.rel.outUpd hD2)).1
          · exact (((t2.trans t3).trans p.stp).outUpd hD).trans (own_stp (wp (p.rel.outUpd (ho := .lst (vacc ++ [y])) hD2)).2)
          · exact ((ra4.app (.cons ry .nil)).mv (upd_mv (ho := .lst (vacc ++ [y])) (.inr (.inl hD2)))).mv (own_mv (wp (p.rel.outUpd (ho := .lst (vacc ++ [y])) hD2)).2)
    rcases yld x H' y with ⟨rfl, rx⟩ | ⟨p, o, hp, rfl, rx⟩
    · exact turn _ Rc tc eD ra rx
    · refine turn _ (Rc.new hp) (tc.trans (new_stp hp)) ?_ (ra.mv (new_mv hp)) rx
      rw [upd_ne (fun z => by rw [z, hp] at eD; cases eD)]
      exact eD
  · left
    have hi' : i = ds.length := by omega
    refine ⟨oks.2 hi', q _ _ φ' ?_⟩
    rw [hi', List.drop_length] at e
    cases e
    obtain ⟨R9, own9⟩ := R1.back Rc mc no
    have hHD : H D = none := Classical.byContradiction fun z => t1.kp D z hD
    refine ⟨(t1.trans tc).trans (own_stp own9), R9.less fun _ z => .inl z, D, rfl, R9, ⟨vacc, eD, ra.mv (own_mv own9)⟩, fun z => R1.ot D z hD, .inl hHD⟩
/-- [elt for tg in it if ..] -/
theorem lc_sound {it : It'} {tg : Tg} {elt : CE} {cs : List CE} {ds r : List D} {Q : VK} (R : Rel X.K X.mg φ out ρ S σ H) (ei : evi T k it ρ S = some (ds, ρ1, S1)) (no : noOw tg.ixs ρ1 = true)
    (el : lcL tg (lcOne T k elt cs) ds [] (wipeT tg.ixs ρ1) S1 = some (r, ρ', S')) (q : ∀ v H' φ', Post X.K X.mg φ out ρ σ H (.fr (.lst r)) (backT tg.ixs ρ1 ρ') S' v H' φ' → Q v H') :
    tLc (TIv T k X it) (gT X.K tg) (TCv T k X cs) (TEv T k X elt) tg.ixs σ H Q := by
  exact ⟨φ, out, ρ, S, ds, ρ1, S1, R, ei, fun J H1 φ1 t1 R1 ok D hD => lc_walk no el q t1 R1 ok hD⟩
end
end Sk

/-! Sk9: each form of an expression. -/
namespace Sk
open PySem PySem.Spec PyProof.Rows L2

theorem peC {X : Cx} {e : Expr} {t t' : TE} (h : PE X e t) (c : ∀ σ H Q, t' σ H Q → t σ H Q) : PE X e t' := ⟨fun pins s σ H Q I q => h.run pins s σ H Q I (c σ H Q q)⟩
theorem ptC {X : Cx} {e : Expr} {t t' : TT} (h : PT X e t) (c : ∀ σ H Q, t' σ H Q → t σ H Q) : PT X e t' := ⟨fun pins s σ H Q I q => h.run pins s σ H Q I (c σ H Q q)⟩
theorem pwC {X : Cx} {e : Expr} {t t' : TT} (h : PW X e t) (c : ∀ σ H Q, t' σ H Q → t σ H Q) : PW X e t' := ⟨fun w pins s σ H Q I q => h.run w pins s σ H Q I (c σ H Q q)⟩
theorem paC {X : Cx} {e : List Expr} {t t' : TA} (h : PA X e t) (c : ∀ σ H Q, t' σ H Q → t σ H Q) : PA X e t' := ⟨fun p pins s σ H Q I q => h.run p pins s σ H Q I (c σ H Q q)⟩
theorem poC {X : Cx} {e : Option Expr} {t t' : TO} (h : PO X e t) (c : ∀ σ H Q, t' σ H Q → t σ H Q) : PO X e t' := ⟨fun pins s σ H Q I q => h.run pins s σ H Q I (c σ H Q q)⟩
theorem piC {X : Cx} {tg e : Expr} {t t' : TI} (h : PI X tg e t) (c : ∀ σ H Q, t' σ H Q → t σ H Q) : PI X tg e t' := ⟨fun pins s σ H Q I q => h.run pins s σ H Q I (c σ H Q q)⟩

def plainT : Expr → Bool
  | .UnaryOp .Not _ _ => false
  | .BoolOp .. => false
  | .IfExp .. => false
  | .Compare .. => false
  | _ => true
theorem isTrue_of {e : Expr} {env : Env} (h : plainT e = true) (whole : Sem Value) : isTrue e env whole = (do let v ← whole; standAt e.pos; holding [v] (truthy v)) := by
  cases e with
  | UnaryOp op x p =>
    cases op <;> first
      | rfl
      | cases h
  | BoolOp _ _ _ => cases h
  | IfExp _ _ _ _ => cases h
  | Compare _ _ _ _ => cases h
  | _ => rfl

/-- what is shown of an expression's compact text -/
structure SE (T : Tab) (k : Nat) (c : CE) : Prop where
  pe : ∀ X sc e, Good T k X sc → mE sc X.N c e = true → PE X e (TEv T k X c)
  pt : ∀ X sc e, Good T k X sc → mE sc X.N c e = true → PT X e (TTv T k X c)
  pw : ∀ X sc op vs p, Good T k X sc → mE sc X.N c (.BoolOp op vs p) = true → PW X (.BoolOp op vs p) (TTv T k X c)
/-- what is walked under a lock -/
def isLk : It' → Bool
  | .keys _ => true
  | .items _ => true
  | .values _ => true
  | _ => false
structure SI (T : Tab) (k : Nat) (c : It') : Prop where
  pi : ∀ X sc e t, Good T k X sc → isLk c = false → mI sc X.N c e t = true → PI X t e (TIv T k X c) ∧ ∀ x, foldedSetIterable e X.env x = pure x
section
variable {T : Tab} {k : Nat} {c a b d : CE}
theorem pt_of {X : Cx} {e : Expr} (h : PE X e (TEv T k X c)) (p : plainT e = true) : PT X e (TTv T k X c) := by
  refine ptC (pt_val h (isTrue_of p)) fun σ H Q ⟨φ, out, ρ, S, b, ρ', S', R, e, q⟩ => ⟨φ, out, ρ, S, _, ρ', S', R, e, fun v H' φ' po => ?_⟩
  exact ⟨b, RepV.toBl po.val, q H' φ' po.stp po.rel⟩
theorem SE.plain (pe : ∀ X sc e, Good T k X sc → mE sc X.N c e = true → PE X e (TEv T k X c)) (h : ∀ sc N e, mE sc N c e = true → plainT e = true) : SE T k c :=
  ⟨pe, fun X sc e g m => pt_of (pe X sc e g m) (h _ _ _ m), fun X sc op vs p g m => absurd (h _ _ _ m) Bool.false_ne_true⟩
/-- no test is asked of it -/
theorem SE.cmp' (pe : ∀ X sc e, Good T k X sc → mE sc X.N c e = true → PE X e (TEv T k X c)) (pt : ∀ X sc e, Good T k X sc → mE sc X.N c e = true → PT X e (TTv T k X c)) (h : ∀ sc N op vs p, mE sc N c (.BoolOp op vs p) = true → False) : SE T k c :=
  ⟨pe, pt, fun X sc op vs p g m => (h _ _ _ _ _ m).elim⟩

/-! ### names, constants -/
theorem k_var {i : Nat} : SE T k (.var i) := by
  refine .plain (fun X sc e g h => ?_) fun sc N e h => ?_
  · cases e with
    | Name x p =>
      have h' : (decide (X.N[i]? = some x) && visB sc x && okName x) = true := h
      simp only [Bool.and_eq_true, decide_eq_true_eq] at h'
      obtain ⟨⟨hN, hv⟩, hk⟩ := h'
      obtain ⟨d1, d2⟩ := okName_ne hk
      refine peC (pe_var hN (g.vis hv) d1 d2) fun σ H Q ⟨φ, out, ρ, S, o, ρ', S', R, e, q⟩ => ?_
      have e' : (match ρ[i]? with
        | some (.va d) => some (Op.fz d, ρ, S)
        | _ => none) = some (o, ρ', S') := e
      cases hi : ρ[i]? with
      | none => rw [hi] at e'; cases e'
      | some s =>
        rw [hi] at e'
        cases s with
        | va d =>
          cases e'
          obtain ⟨v, e1, h1⟩ := R.va i d hi
          exact ⟨v, e1, q v H φ (endFz .refl R h1)⟩
        | _ => cases e'
    | _ => cases h
  · cases e <;> first
      | rfl
      | cases h
theorem k_rd {i : Nat} : SE T k (.rd i) := by
  refine .plain (fun X sc e g h => ?_) fun sc N e h => ?_
  · cases e with
    | Name x p =>
      have h' : (decide (X.N[i]? = some x) && visB sc x && okName x) = true := h
      simp only [Bool.and_eq_true, decide_eq_true_eq] at h'
      obtain ⟨⟨hN, hv⟩, hk⟩ := h'
      obtain ⟨d1, d2⟩ := okName_ne hk
      refine peC (pe_var hN (g.vis hv) d1 d2) fun σ H Q ⟨φ, out, ρ, S, o, ρ', S', R, e, q⟩ => ?_
      have e' : (match ρ[i]? with
        | some (.ow _) => some (Op.sl i, ρ, S)
        | some (.va d) => some (Op.fz d, ρ, S)
        | _ => none) = some (o, ρ', S') := e
      cases hi : ρ[i]? with
      | none => rw [hi] at e'; cases e'
      | some s =>
        rw [hi] at e'
        cases s with
        | va d =>
          cases e'
          obtain ⟨v, e1, h1⟩ := R.va i d hi
          exact ⟨v, e1, q v H φ (endFz .refl R h1)⟩
        | ow d =>
          cases e'
          obtain ⟨a, e1, h1, _⟩ := R.ow i d hi
          exact ⟨_, e1, q _ H φ ⟨.refl, R, a, d, hi, e1, rfl⟩⟩
        | _ => cases e'
    | _ => cases h
  · cases e <;> first
      | rfl
      | cases h
theorem Rel.moved {K : PySem.W.Frag} {mg : Str → Option Value} {φ : List Addr} {out : Addr → Prop} {ρ : Env'} {S : Sto} {σ : L2.St} {H : Hp} (R : Rel K mg φ out ρ S σ H) {i : Nat} {d : D} {a : Addr} (hi : ρ[i]? = some (.ow d)) (e1 : σ[i]? = some (some (.ref a))) :
    Rel K mg φ (fun b => out b ∨ b = a) (ρ.set i .no) S σ H ∧ ObjD K mg φ (exc φ (fun b => out b ∨ b = a) (ρ.set i .no) σ) H a d := by
  obtain ⟨a', e1', h1, h2, h3⟩ := R.ow i d hi
  rw [e1] at e1'
  cases e1'
  have hl : i < ρ.length := (List.getElem?_eq_some_iff.mp hi).1
  have sub : ∀ {j : Nat} {s : Sl}, (ρ.set i .no)[j]? = some s → s ≠ .no → i ≠ j ∧ ρ[j]? = some s := fun {j s} e n => by
    by_cases z : i = j
    · subst z
      rw [List.getElem?_set_self hl] at e
      exact absurd (Option.some.inj e).symm n
    · rw [List.getElem?_set_ne z] at e
      exact ⟨z, e⟩
  have m : Mv φ φ (exc φ out ρ σ) (exc φ (fun b => out b ∨ b = a) (ρ.set i .no) σ) H H := .less fun b z => by
    rcases z with z | (z | z) | ⟨j, x, q1, q2⟩
    · exact .inl z
    · exact .inr (.inl z)
    · exact .inr (.inr ⟨i, d, hi, z ▸ e1⟩)
    · exact .inr (.inr ⟨j, x, (sub q1 fun z => (nomatch z)).2, q2⟩)
  refine ⟨⟨by rw [List.length_set]; exact R.len, fun j x e => ?_, fun j x e => ?_, fun u v w x y q1 q2 q3 q4 => ?_, fun n ob e => ?_, R.sl, R.nd, fun b q z => ?_, fun b z => ?_⟩, h1.mv m fun _ q => q⟩
  · obtain ⟨v, q1, q2⟩ := R.va j x (sub e fun z => (nomatch z)).2
    exact ⟨v, q1, q2.mv m⟩
  · obtain ⟨z, e'⟩ := sub e fun z => (nomatch z)
    obtain ⟨b, q1, q2, q3, q4⟩ := R.ow j x e'
    exact ⟨b, q1, q2.mv m fun _ q => q, q3, fun w => w.elim q4 fun w => z (R.owi i j a _ _ hi e' e1 (w ▸ q1))⟩
  · exact R.owi u v w x y (sub q1 fun z => (nomatch z)).2 (sub q2 fun z => (nomatch z)).2 q3 q4
  · obtain ⟨b, q1, q2⟩ := R.st n ob e
    exact ⟨b, q1, q2.mv m fun _ q => q⟩
  · rcases z with z | z
    · exact R.no b q z
    · exact h2 (z ▸ q)
  · rcases z with z | z
    · exact R.ot b z
    · rw [z]; exact h1.some
theorem k_mv {i : Nat} : SE T k (.mv i) := by
  refine .plain (fun X sc e g h => ?_) fun sc N e h => ?_
  · cases e with
    | Name x p =>
      have h' : (decide (X.N[i]? = some x) && visB sc x && okName x) = true := h
      simp only [Bool.and_eq_true, decide_eq_true_eq] at h'
      obtain ⟨⟨hN, hv⟩, hk⟩ := h'
      obtain ⟨d1, d2⟩ := okName_ne hk
      refine peC (pe_var hN (g.vis hv) d1 d2) fun σ H Q ⟨φ, out, ρ, S, o, ρ', S', R, e, q⟩ => ?_
      have e' : (match ρ[i]? with
        | some (.ow d) => some (Op.fr d, ρ.set i .no, S)
        | _ => none) = some (o, ρ', S') := e
      cases hi : ρ[i]? with
      | none => rw [hi] at e'; cases e'
      | some s =>
        rw [hi] at e'
        cases s with
        | ow d =>
          cases e'
          obtain ⟨a, e1, h1, h2, h3⟩ := R.ow i d hi
          obtain ⟨R2, h4⟩ := R.moved hi e1
          have own : ∀ b, ownA (ρ.set i .no) σ b → ownA ρ σ b := fun b ⟨j, x, q1, q2⟩ => by
            by_cases z : i = j
            · subst z
              rw [List.getElem?_set_self (List.getElem?_eq_some_iff.mp hi).1] at q1
              cases q1
            · rw [List.getElem?_set_ne z] at q1
              exact ⟨j, x, q1, q2⟩
          exact ⟨_, e1, q _ H φ ⟨own_stp own, R2.less fun _ z => .inl z, a, rfl, R2, h4, h3, .inr ⟨i, d, hi, e1⟩⟩⟩
        | _ => cases e'
    | _ => cases h
  · cases e <;> first
      | rfl
      | cases h
theorem const_done {X : Cx} {σ : L2.St} {H : Hp} {Q : VK} {d : D} {v : V} (hc : ∀ ρ S, ev T k c ρ S = some (.fz d, ρ, S)) (hv : ∀ φ ex H, RepV X.K X.mg φ ex H d v) (h : TEv T k X c σ H Q) : Q v H := by
  obtain ⟨φ, out, ρ, S, o, ρ', S', R, e, q⟩ := h
  rw [hc] at e
  cases e
  exact q v H φ (endFz .refl R (hv _ _ _))
theorem k_non : SE T k .non := by
  refine .plain (fun X sc e g h => ?_) fun sc N e h => ?_
  · cases e with
    | Constant v j p =>
      cases v with
      | none => exact peC pe_non fun σ H Q h => const_done (fun _ _ => rfl) (fun _ _ _ => .non) h
      | _ => cases h
    | _ => cases h
  · cases e <;> first
      | rfl
      | cases h
theorem k_bl {b : Bool} : SE T k (.bl b) := by
  refine .plain (fun X sc e g h => ?_) fun sc N e h => ?_
  · cases e with
    | Constant v j p =>
      cases v with
      | bool c =>
        have h' : (b == c) = true := h
        simp only [beq_iff_eq] at h'
        subst h'
        exact peC pe_bl fun σ H Q h => const_done (fun _ _ => rfl) (fun _ _ _ => .bl _) h
      | _ => cases h
    | _ => cases h
  · cases e <;> first
      | rfl
      | cases h
theorem k_int {b : Int} : SE T k (.int b) := by
  refine .plain (fun X sc e g h => ?_) fun sc N e h => ?_
  · cases e with
    | Constant v j p =>
      cases v with
      | int c =>
        have h' : decide (b = c) = true := h
        simp only [decide_eq_true_eq] at h'
        subst h'
        exact peC pe_int fun σ H Q h => const_done (fun _ _ => rfl) (fun _ _ _ => .int _) h
      | _ => cases h
    | _ => cases h
  · cases e <;> first
      | rfl
      | cases h
theorem k_str {b : Str} : SE T k (.str b) := by
  refine .plain (fun X sc e g h => ?_) fun sc N e h => ?_
  · cases e with
    | Constant v j p =>
      cases v with
      | str c =>
        have h' : decide (b = c) = true := h
        simp only [decide_eq_true_eq] at h'
        subst h'
        exact peC pe_str fun σ H Q h => const_done (fun _ _ => rfl) (fun _ _ _ => .str _) h
      | _ => cases h
    | _ => cases h
  · cases e <;> first
      | rfl
      | cases h
theorem k_glo {x : Str} : SE T k (.glo x) := by
  refine .plain (fun X sc e g h => ?_) fun sc N e h => ?_
  · cases e with
    | Name y p =>
      have h' : (decide (x = y) && gloB sc y) = true := h
      simp only [Bool.and_eq_true, decide_eq_true_eq] at h'
      obtain ⟨rfl, hg⟩ := h'
      obtain ⟨g1, g2, g3, g4⟩ := g.gl hg
      cases hG : T.G x with
      | none =>
        refine ⟨fun pins s σ H Q I q => ?_⟩
        obtain ⟨φ, out, ρ, S, o, ρ', S', R, e, q⟩ := q
        have e' : obd (T.G x) (fun d => some (Op.fz d, ρ, S)) = some (o, ρ', S') := e
        rw [hG] at e'
        cases e'
      | some d =>
        obtain ⟨u, v, m, r, hr⟩ := g.G x d hG
        refine peC (pe_glob g1 m r g2) fun σ H Q h => const_done (c := .glo x) (d := d) (fun ρ S => ?_) hr h
        show obd (T.G x) _ = _
        rw [hG]
        rfl
    | _ => cases h
  · cases e <;> first
      | rfl
      | cases h

/-! ### operators -/
theorem k_bop {o : BO} (sa : SE T k a) (sb : SE T k b) : SE T k (.bop o a b) := by
  refine .plain (fun X sc e g h => ?_) fun sc N e h => ?_
  · cases e with
    | BinOp l op r p =>
      have h' : (decide (opOf o = op) && mE sc X.N a l && mE sc X.N b r) = true := h
      simp only [Bool.and_eq_true, decide_eq_true_eq] at h'
      obtain ⟨⟨rfl, h1⟩, h2⟩ := h'
      refine peC (pe_op (op_any X _) (sa.pe X sc l g h1) (sb.pe X sc r g h2)) fun σ H Q ⟨φ, out, ρ, S, o, ρ', S', R, e, q⟩ => ?_
      simp only [ev, evE] at e
      obtain ⟨x, ρ1, S1, ea, e⟩ := bnd_inv e
      obtain ⟨y, ρ2, S2, eb, e⟩ := bnd_inv e
      obtain ⟨dx, ex, e⟩ := obd_inv e
      obtain ⟨dy, ey, e⟩ := obd_inv e
      obtain ⟨w, er, e⟩ := obd_inv e
      cases e
      refine two R ea eb fun v u H2 φ2 t R2 hv hu => ?_
      exact bop_rule (cont_ok R2 hv ex) (cont_ok R2 hu ey) er (resEnd (bop_fr er).1 (bop_fr er).2 t R2 q)
    | _ => cases h
  · cases e <;> first
      | rfl
      | cases h
theorem k_neg (sa : SE T k a) : SE T k (.neg a) := by
  refine .plain (fun X sc e g h => ?_) fun sc N e h => ?_
  · cases e with
    | UnaryOp op x p =>
      cases op with
      | USub =>
        have h' : mE sc X.N a x = true := h
        refine peC (pe_un un_neg (sa.pe X sc x g h')) fun σ H Q ⟨φ, out, ρ, S, o, ρ', S', R, e, q⟩ => ?_
        simp only [ev, evE] at e
        obtain ⟨x, ρ1, S1, ea, e⟩ := bnd_inv e
        split at e
        · cases e
          refine one R ea fun v H1 φ1 p1 => ?_
          exact ⟨_, RepV.toInt p1.val, q _ _ _ (endFz p1.stp p1.rel (.int _))⟩
        · cases e
      | _ => cases h
    | _ => cases h
  · cases e with
    | UnaryOp op x p =>
      cases op <;> first
        | rfl
        | cases h
    | _ => cases h
theorem k_cmp {o : CO} (sa : SE T k a) (sb : SE T k b) : SE T k (.cmp o a b) := by
  refine .cmp' (fun X sc e g h => ?_) (fun X sc e g h => ?_) fun sc N op vs p h => by cases h
  all_goals
    unfold mE at h
    split at h
    · rename_i l op r p
      simp only [Bool.and_eq_true, decide_eq_true_eq, Bool.not_eq_true'] at h
      obtain ⟨⟨⟨rfl, h1⟩, h2⟩, h3⟩ := h
      first
        | (refine peC (pe_cmpR (op_any X _) (sa.pe X sc l g h1) (sb.pe X sc r g h2) h3) fun σ H Q ⟨φ, out, ρ, S, o, ρ', S', R, e, q⟩ => ?_
           simp only [ev, evE] at e
           obtain ⟨x, ρ1, S1, ea, e⟩ := bnd_inv e
           obtain ⟨y, ρ2, S2, eb, e⟩ := bnd_inv e
           obtain ⟨dx, ex, e⟩ := obd_inv e
           obtain ⟨dy, ey, e⟩ := obd_inv e
           obtain ⟨w, er, e⟩ := obd_inv e
           cases e
           exact two R ea eb fun v u H2 φ2 t R2 hv hu => cmp_rule g.hu (look_ok R2 hv ex) (look_ok R2 hu ey) er (q _ _ _ (endFz t R2 (.bl _))))
        | (refine ptC (pt_cmpR (op_any X _) (sa.pe X sc l g h1) (sb.pe X sc r g h2) h3) fun σ H Q ⟨φ, out, ρ, S, o, ρ', S', R, e, q⟩ => ?_
           simp only [ev, evE] at e
           obtain ⟨x, ρ1, S1, ea, e⟩ := bnd_inv e
           obtain ⟨y, ρ2, S2, eb, e⟩ := bnd_inv e
           obtain ⟨dx, ex, e⟩ := obd_inv e
           obtain ⟨dy, ey, e⟩ := obd_inv e
           obtain ⟨w, er, e⟩ := obd_inv e
           cases e
           exact two R ea eb fun v u H2 φ2 t R2 hv hu => cmp_rule g.hu (look_ok R2 hv ex) (look_ok R2 hu ey) er ⟨_, rfl, q _ _ t R2⟩)
    · cases h
end
end Sk

/-! Sk10: tests, items, displays. -/
namespace Sk
open PySem PySem.Spec PyProof.Rows L2

theorem Post.trans {K : PySem.W.Frag} {mg : Str → Option Value} {φ φ1 φ' : List Addr} {out : Addr → Prop} {ρ ρ1 ρ' : Env'} {S' : Sto} {σ : L2.St} {H H1 H' : Hp} {o : Op} {v : V} (t : Stp φ ρ σ H φ1 ρ1 σ H1)
    (p : Post K mg φ1 out ρ1 σ H1 o ρ' S' v H' φ') : Post K mg φ out ρ σ H o ρ' S' v H' φ' := by
  refine ⟨t.trans p.stp, p.rel, ?_⟩
  have h := p.val
  cases o with
  | fz d => exact h
  | sl i => exact h
  | fr d =>
    obtain ⟨a, e, h1, h2, h3, h4⟩ := h
    have back : H1 a = none → H a = none := fun hc => Classical.byContradiction fun z => t.kp a z hc
    refine ⟨a, e, h1, h2, h3, ?_⟩
    rcases h4 with h4 | h4
    · exact .inl (back h4)
    · exact (t.on a h4).elim .inr .inl
section
variable {T : Tab} {k : Nat} {c a b d : CE}
theorem k_no (sa : SE T k a) : SE T k (.no a) := by
  refine .cmp' (fun X sc e g h => ?_) (fun X sc e g h => ?_) fun sc N op vs p h => by cases h
  all_goals
    unfold mE at h
    split at h
    · rename_i x p
      first
        | (refine peC (pe_not (sa.pe X sc x g h)) fun σ H Q ⟨φ, out, ρ, S, o, ρ', S', R, e, q⟩ => ?_
           simp only [ev, evE] at e
           obtain ⟨x, ρ1, S1, ea, e⟩ := bnd_inv e
           split at e
           · cases e
             exact one R ea fun v H1 φ1 p1 => ⟨_, RepV.toBl p1.val, q _ _ _ (endFz p1.stp p1.rel (.bl _))⟩
           · cases e)
        | (refine ptC (pt_not (sa.pt X sc x g h)) fun σ H Q ⟨φ, out, ρ, S, o, ρ', S', R, e, q⟩ => ?_
           simp only [ev, evE] at e
           obtain ⟨x, ρ1, S1, ea, e⟩ := bnd_inv e
           split at e
           · cases e
             exact ⟨φ, out, ρ, S, _, _, _, R, ea, fun H' φ' t R' => q H' φ' t R'⟩
           · cases e)
    · cases h
theorem pt_ifExp {X : Cx} {x y z : Expr} {p : Pos} {tc ta tb : TT} (hc : PT X x tc) (ha : PT X y ta) (hb : PT X z tb) : PT X (.IfExp x y z p) (fun σ H Q => tc σ H fun c H1 => if c = true then ta σ H1 Q else tb σ H1 Q) :=
  ⟨fun pins s σ H Q I h => isTrue_IfExp (thn (hc.run pins s σ H _ I h) fun d s1 ⟨H1, I1, q1⟩ => by
    cases d with
    | true => exact ha.run pins s1 σ H1 Q I1 q1
    | false => exact hb.run pins s1 σ H1 Q I1 q1)⟩
theorem k_ite (sc' : SE T k c) (sa : SE T k a) (sb : SE T k b) : SE T k (.ite c a b) := by
  refine .cmp' (fun X sc e g h => ?_) (fun X sc e g h => ?_) fun sc N op vs p h => by cases h
  · unfold mE at h
    split at h
    · rename_i x y z p
      simp only [Bool.and_eq_true] at h
      obtain ⟨⟨h1, h2⟩, h3⟩ := h
      refine peC (pe_ifExp (sc'.pt X sc x g h1) (sa.pe X sc y g h2) (sb.pe X sc z g h3)) fun σ H Q ⟨φ, out, ρ, S, o, ρ', S', R, e, q⟩ => ?_
      simp only [ev, evE] at e
      obtain ⟨x, ρ1, S1, ea, e⟩ := bnd_inv e
      split at e
      · exact ⟨φ, out, ρ, S, true, ρ1, S1, R, ea, fun H' φ' t R' => one (T := T) (k := k) R' e fun v H2 φ2 p2 => q v H2 φ2 (p2.trans t)⟩
      · exact ⟨φ, out, ρ, S, false, ρ1, S1, R, ea, fun H' φ' t R' => one (T := T) (k := k) R' e fun v H2 φ2 p2 => q v H2 φ2 (p2.trans t)⟩
      · cases e
    · cases h
  · unfold mE at h
    split at h
    · rename_i x y z p
      simp only [Bool.and_eq_true] at h
      obtain ⟨⟨h1, h2⟩, h3⟩ := h
      refine ptC (pt_ifExp (sc'.pt X sc x g h1) (sa.pt X sc y g h2) (sb.pt X sc z g h3)) fun σ H Q ⟨φ, out, ρ, S, o, ρ', S', R, e, q⟩ => ?_
      simp only [ev, evE] at e
      obtain ⟨x, ρ1, S1, ea, e⟩ := bnd_inv e
      split at e
      · exact ⟨φ, out, ρ, S, true, ρ1, S1, R, ea, fun H' φ' t R' => ⟨φ', out, ρ1, S1, o, ρ', S', R', e, fun H2 φ2 t2 R2 => q H2 φ2 (t.trans t2) R2⟩⟩
      · exact ⟨φ, out, ρ, S, false, ρ1, S1, R, ea, fun H' φ' t R' => ⟨φ', out, ρ1, S1, o, ρ', S', R', e, fun H2 φ2 t2 R2 => q H2 φ2 (t.trans t2) R2⟩⟩
      · cases e
    · cases h
theorem chn_inv {o o' : CO} {ρ : Env'} {S : Sto} {r : Op × Env' × Sto} (e : ev T k (.chn o o' a b c) ρ S = some r) : ∃ x ρ1 S1 y ρ2 S2 dx dy v, ev T k a ρ S = some (x, ρ1, S1) ∧ ev T k b ρ1 S1 = some (y, ρ2, S2) ∧ look ρ2 S2 x = some dx ∧ look ρ2 S2 y = some dy ∧ cmpD o dx dy = some v ∧
    ((v = false ∧ r = (.fz (.bl false), ρ2, S2)) ∨ (v = true ∧ ∃ z ρ3 S3 dy' dz w, ev T k c ρ2 S2 = some (z, ρ3, S3) ∧ look ρ3 S3 y = some dy' ∧ look ρ3 S3 z = some dz ∧ cmpD o' dy' dz = some w ∧ r = (.fz (.bl w), ρ3, S3))) := by
  simp only [ev, evE] at e
  obtain ⟨x, ρ1, S1, ea, e⟩ := bnd_inv e
  obtain ⟨y, ρ2, S2, eb, e⟩ := bnd_inv e
  obtain ⟨dx, ex, e⟩ := obd_inv e
  obtain ⟨dy, ey, e⟩ := obd_inv e
  obtain ⟨v, er, e⟩ := obd_inv e
  refine ⟨x, ρ1, S1, y, ρ2, S2, dx, dy, v, ea, eb, ex, ey, er, ?_⟩
  cases v with
  | false => exact .inl ⟨rfl, (Option.some.inj e).symm⟩
  | true =>
    obtain ⟨z, ρ3, S3, ec, e⟩ := bnd_inv e
    obtain ⟨dy', ey', e⟩ := obd_inv e
    obtain ⟨dz, ez, e⟩ := obd_inv e
    obtain ⟨w, er', e⟩ := obd_inv e
    exact .inr ⟨rfl, z, ρ3, S3, dy', dz, w, ec, ey', ez, er', (Option.some.inj e).symm⟩
theorem chn_run {X : Cx} {sc : Scope} (g : Good T k X sc) {o o' : CO} {σ : L2.St} {H : Hp} {φ : List Addr} {out : Addr → Prop} {ρ ρ' : Env'} {S S' : Sto} {r : Op} {Q : VK} (R : Rel X.K X.mg φ out ρ S σ H) (e : ev T k (.chn o o' a b c) ρ S = some (r, ρ', S'))
    (q : ∀ bb H' φ', r = .fz (.bl bb) → Stp φ ρ σ H φ' ρ' σ H' → Rel X.K X.mg φ' out ρ' S' σ H' → Q (.bl bb) H') :
    tChain (anyR X (compareOp (copOf o))) (anyR X (compareOp (copOf o'))) (TEv T k X a) (TEv T k X b) (TEv T k X c) σ H Q := by
  obtain ⟨x, ρ1, S1, y, ρ2, S2, dx, dy, v, ea, eb, ex, ey, er, e⟩ := chn_inv e
  refine two R ea eb fun u w H2 φ2 t R2 hv hu => cmp_rule g.hu (look_ok R2 hv ex) (look_ok R2 hu ey) er ⟨v, rfl, ?_⟩
  rcases e with ⟨rfl, e⟩ | ⟨rfl, z, ρ3, S3, dy', dz, w', ec, ey', ez, er', e⟩
  · cases e
    rw [if_neg Bool.false_ne_true]
    exact q _ _ _ rfl t R2
  · cases e
    rw [if_pos rfl]
    refine one R2 ec fun z' H3 φ3 p3 => ?_
    have m := p3.stp.mv (out' := out) R2 fun _ z => .inl z
    exact cmp_rule g.hu (look_ok p3.rel (hu.mv m) ey') (look_ok p3.rel (p3.val.op p3.rel) ez) er' (q _ _ _ rfl (t.trans p3.stp) p3.rel)
theorem k_chn {o o' : CO} (sa : SE T k a) (sb : SE T k b) (sc' : SE T k c) : SE T k (.chn o o' a b c) := by
  refine .cmp' (fun X sc e g h => ?_) (fun X sc e g h => ?_) fun sc N op vs p h => by cases h
  all_goals
    unfold mE at h
    split at h
    · rename_i l op op' r r' p
      simp only [Bool.and_eq_true, decide_eq_true_eq, Bool.not_eq_true'] at h
      obtain ⟨⟨⟨⟨⟨rfl, rfl⟩, h1⟩, h2⟩, h3⟩, h4⟩ := h
      first
        | (refine peC (pe_chain (op_any X _) (op_any X _) (sa.pe X sc l g h1) (sb.pe X sc r g h2) (sc'.pe X sc r' g h3) h4) fun σ H Q ⟨φ, out, ρ, S, o, ρ', S', R, e, q⟩ => ?_
           exact chn_run g R e fun bb H' φ' er t R' => q _ _ _ (by rw [er]; exact endFz t R' (.bl _)))
        | (refine ptC (pt_chain (op_any X _) (op_any X _) (sa.pe X sc l g h1) (sb.pe X sc r g h2) (sc'.pe X sc r' g h3) h4) fun σ H Q ⟨φ, out, ρ, S, o, ρ', S', R, e, q⟩ => ?_
           exact chn_run g R e fun bb H' φ' er t R' => ⟨bb, rfl, by cases er; exact q _ _ t R'⟩)
    · cases h
theorem and_inv {ρ : Env'} {S : Sto} {r : Op × Env' × Sto} (e : ev T k (.and a b) ρ S = some r) : ∃ x ρ1 S1, ev T k a ρ S = some (.fz (.bl x), ρ1, S1) ∧ ((x = false ∧ r = (.fz (.bl false), ρ1, S1)) ∨ (x = true ∧ ev T k b ρ1 S1 = some r)) := by
  simp only [ev, evE] at e
  obtain ⟨x, ρ1, S1, ea, e⟩ := bnd_inv e
  split at e
  · exact ⟨true, ρ1, S1, ea, .inr ⟨rfl, e⟩⟩
  · exact ⟨false, ρ1, S1, ea, .inl ⟨rfl, (Option.some.inj e).symm⟩⟩
  · cases e
theorem orr_inv {ρ : Env'} {S : Sto} {r : Op × Env' × Sto} (e : ev T k (.orr a b) ρ S = some r) : ∃ x ρ1 S1, ev T k a ρ S = some (.fz (.bl x), ρ1, S1) ∧ ((x = true ∧ r = (.fz (.bl true), ρ1, S1)) ∨ (x = false ∧ ev T k b ρ1 S1 = some r)) := by
  simp only [ev, evE] at e
  obtain ⟨x, ρ1, S1, ea, e⟩ := bnd_inv e
  split at e
  · exact ⟨true, ρ1, S1, ea, .inl ⟨rfl, (Option.some.inj e).symm⟩⟩
  · exact ⟨false, ρ1, S1, ea, .inr ⟨rfl, e⟩⟩
  · cases e
theorem and_cE {X : Cx} {σ : L2.St} {H : Hp} {Q : VK} (h : TEv T k X (.and a b) σ H Q) : tAndV (TEv T k X a) (TEv T k X b) σ H Q := by
  obtain ⟨φ, out, ρ, S, o, ρ', S', R, e, q⟩ := h
  obtain ⟨x, ρ1, S1, ea, e⟩ := and_inv e
  refine one R ea fun v H1 φ1 p1 => ⟨x, RepV.toBl p1.val, ?_⟩
  rcases e with ⟨rfl, e⟩ | ⟨rfl, e⟩
  · cases e
    rw [if_neg Bool.false_ne_true]
    exact q _ _ _ (endFz p1.stp p1.rel (.bl _))
  · rw [if_pos rfl]
    exact one p1.rel e fun v H2 φ2 p2 => q v H2 φ2 (p2.trans p1.stp)
theorem orr_cE {X : Cx} {σ : L2.St} {H : Hp} {Q : VK} (h : TEv T k X (.orr a b) σ H Q) : tOrV (TEv T k X a) (TEv T k X b) σ H Q := by
  obtain ⟨φ, out, ρ, S, o, ρ', S', R, e, q⟩ := h
  obtain ⟨x, ρ1, S1, ea, e⟩ := orr_inv e
  refine one R ea fun v H1 φ1 p1 => ⟨x, RepV.toBl p1.val, ?_⟩
  rcases e with ⟨rfl, e⟩ | ⟨rfl, e⟩
  · cases e
    rw [if_pos rfl]
    exact q _ _ _ (endFz p1.stp p1.rel (.bl _))
  · rw [if_neg Bool.false_ne_true]
    exact one p1.rel e fun v H2 φ2 p2 => q v H2 φ2 (p2.trans p1.stp)
theorem and_cT {X : Cx} {σ : L2.St} {H : Hp} {Q : Bool → Hp → Prop} (h : TTv T k X (.and a b) σ H Q) : tAnd (TTv T k X a) (TTv T k X b) σ H Q := by
  obtain ⟨φ, out, ρ, S, o, ρ', S', R, e, q⟩ := h
  obtain ⟨x, ρ1, S1, ea, e⟩ := and_inv e
  refine ⟨φ, out, ρ, S, x, ρ1, S1, R, ea, fun H1 φ1 t R1 => ?_⟩
  rcases e with ⟨rfl, e⟩ | ⟨rfl, e⟩
  · cases e
    rw [if_neg Bool.false_ne_true]
    exact q _ _ t R1
  · rw [if_pos rfl]
    exact ⟨φ1, out, ρ1, S1, o, ρ', S', R1, e, fun H2 φ2 t2 R2 => q H2 φ2 (t.trans t2) R2⟩
theorem orr_cT {X : Cx} {σ : L2.St} {H : Hp} {Q : Bool → Hp → Prop} (h : TTv T k X (.orr a b) σ H Q) : tOr (TTv T k X a) (TTv T k X b) σ H Q := by
  obtain ⟨φ, out, ρ, S, o, ρ', S', R, e, q⟩ := h
  obtain ⟨x, ρ1, S1, ea, e⟩ := orr_inv e
  refine ⟨φ, out, ρ, S, x, ρ1, S1, R, ea, fun H1 φ1 t R1 => ?_⟩
  rcases e with ⟨rfl, e⟩ | ⟨rfl, e⟩
  · cases e
    rw [if_pos rfl]
    exact q _ _ t R1
  · rw [if_neg Bool.false_ne_true]
    exact ⟨φ1, out, ρ1, S1, o, ρ', S', R1, e, fun H2 φ2 t2 R2 => q H2 φ2 (t.trans t2) R2⟩
theorem k_and (sa : SE T k a) (sb : SE T k b) : SE T k (.and a b) := by
  have pw : ∀ X sc op vs p, Good T k X sc → mE sc X.N (.and a b) (.BoolOp op vs p) = true → PW X (.BoolOp op vs p) (TTv T k X (.and a b)) := fun X sc op vs p g h => by
    unfold mE at h
    split at h
    · rename_i x y p' ee
      cases ee
      simp only [Bool.and_eq_true] at h
      exact pwC (pw_and (sa.pt X sc x g h.1) (pw_and1 (sb.pt X sc y g h.2))) fun _ _ _ h => and_cT h
    · rename_i x y z r p' ee
      cases ee
      simp only [Bool.and_eq_true] at h
      exact pwC (pw_and (sa.pt X sc x g h.1) (sb.pw X sc _ _ _ g h.2)) fun _ _ _ h => and_cT h
    · cases h
  refine ⟨fun X sc e g h => ?_, fun X sc e g h => ?_, pw⟩
  · unfold mE at h
    split at h
    · rename_i x y p'
      simp only [Bool.and_eq_true] at h
      exact peC (pe_and (sa.pe X sc x g h.1) (pe_one (sb.pe X sc y g h.2))) fun _ _ _ h => and_cE h
    · rename_i x y z r p'
      simp only [Bool.and_eq_true] at h
      exact peC (pe_and (sa.pe X sc x g h.1) (sb.pe X sc _ g h.2)) fun _ _ _ h => and_cE h
    · cases h
  · have h0 := h
    unfold mE at h
    split at h
    · exact (pw X sc _ _ _ g h0).pt
    · exact (pw X sc _ _ _ g h0).pt
    · cases h
theorem k_orr (sa : SE T k a) (sb : SE T k b) : SE T k (.orr a b) := by
  have pw : ∀ X sc op vs p, Good T k X sc → mE sc X.N (.orr a b) (.BoolOp op vs p) = true → PW X (.BoolOp op vs p) (TTv T k X (.orr a b)) := fun X sc op vs p g h => by
    unfold mE at h
    split at h
    · rename_i x y p' ee
      cases ee
      simp only [Bool.and_eq_true] at h
      exact pwC (pw_or (sa.pt X sc x g h.1) (pw_or1 (sb.pt X sc y g h.2))) fun _ _ _ h => orr_cT h
    · rename_i x y z r p' ee
      cases ee
      simp only [Bool.and_eq_true] at h
      exact pwC (pw_or (sa.pt X sc x g h.1) (sb.pw X sc _ _ _ g h.2)) fun _ _ _ h => orr_cT h
    · cases h
  refine ⟨fun X sc e g h => ?_, fun X sc e g h => ?_, pw⟩
  · unfold mE at h
    split at h
    · rename_i x y p'
      simp only [Bool.and_eq_true] at h
      exact peC (pe_or (sa.pe X sc x g h.1) (pe_one (sb.pe X sc y g h.2))) fun _ _ _ h => orr_cE h
    · rename_i x y z r p'
      simp only [Bool.and_eq_true] at h
      exact peC (pe_or (sa.pe X sc x g h.1) (sb.pe X sc _ g h.2)) fun _ _ _ h => orr_cE h
    · cases h
  · have h0 := h
    unfold mE at h
    split at h
    · exact (pw X sc _ _ _ g h0).pt
    · exact (pw X sc _ _ _ g h0).pt
    · cases h

/-! ### items, slices -/
theorem k_sub (sa : SE T k a) (sb : SE T k b) : SE T k (.sub a b) := by
  refine .plain (fun X sc e g h => ?_) fun sc N e h => ?_
  · unfold mE at h
    split at h
    · rename_i x y p
      simp only [Bool.and_eq_true] at h
      obtain ⟨⟨h1, h2⟩, h3⟩ := h
      refine peC (pe_ix (ix_any X) (sa.pe X sc x g h1) (sb.pe X sc y g h2) (plain_ix h3)) fun σ H Q ⟨φ, out, ρ, S, o, ρ', S', R, e, q⟩ => ?_
      simp only [ev, evE] at e
      obtain ⟨x, ρ1, S1, ea, e⟩ := bnd_inv e
      obtain ⟨y, ρ2, S2, eb, e⟩ := bnd_inv e
      obtain ⟨dx, ex, e⟩ := obd_inv e
      obtain ⟨dy, ey, e⟩ := obd_inv e
      obtain ⟨w, er, e⟩ := obd_inv e
      cases e
      exact two R ea eb fun v u H2 φ2 t R2 hv hu => sub_rule (by have := g.hu; omega) (cont_ok R2 hv ex) (hu.toV ey) er fun w hw => q _ _ _ (endFz t R2 hw)
    · cases h
  · cases e <;> first
      | rfl
      | cases h
theorem k_rev (sa : SE T k a) : SE T k (.rev a) := by
  refine .plain (fun X sc e g h => ?_) fun sc N e h => ?_
  · unfold mE at h
    split at h
    · rename_i x i _ _ _ _ _
      simp only [Bool.and_eq_true, decide_eq_true_eq] at h
      obtain ⟨h1, rfl⟩ := h
      refine peC (pe_revL (sa.pe X sc x g h1)) fun σ H Q ⟨φ, out, ρ, S, o, ρ', S', R, e, q⟩ => ?_
      simp only [ev, evE] at e
      obtain ⟨x, ρ1, S1, ea, e⟩ := bnd_inv e
      obtain ⟨dx, ex, e⟩ := obd_inv e
      split at e
      · cases e
        refine one R ea fun v H1 φ1 p1 => ?_
        obtain ⟨a, vs, rfl, h1, r1⟩ := cont_ok p1.rel (p1.val.op p1.rel) ex
        exact ⟨a, vs, rfl, h1, fun p hp => q _ _ _ (endLst p1.stp p1.rel r1.rev hp)⟩
      · cases e
    · cases h
  · cases e <;> first
      | rfl
      | cases h
/-- parts of a slice -/
def TOv (T : Tab) (k : Nat) (X : Cx) (c : Option CE) : TO := fun σ H Q => ∃ φ out ρ S i ρ' S', Rel X.K X.mg φ out ρ S σ H ∧ evO T.G (callK T.G T.F T.M k) T.M c ρ S = some (i, ρ', S') ∧ ∀ H' φ', Stp φ ρ σ H φ' ρ' σ H' → Rel X.K X.mg φ' out ρ' S' σ H' → Q i H'
theorem po_of {X : Cx} {sc : Scope} {lo : Option CE} {l : Option Expr} (g : Good T k X sc) (s : ∀ c, lo = some c → SE T k c) (h : mO sc X.N lo l = true) : PO X l (TOv T k X lo) := by
  cases lo with
  | none =>
    cases l with
    | none =>
      refine poC po_none fun σ H Q ⟨φ, out, ρ, S, o, ρ', S', R, e, q⟩ => ?_
      have e' : some ((none : Option Int), ρ, S) = some (o, ρ', S') := e
      cases e'
      exact q H φ .refl R
    | some x => cases h
  | some c =>
    cases l with
    | none => cases h
    | some x =>
      refine poC (po_some ((s c rfl).pe X sc x g h)) fun σ H Q ⟨φ, out, ρ, S, o, ρ', S', R, e, q⟩ => ?_
      simp only [evO] at e
      obtain ⟨x, ρ1, S1, ea, e⟩ := bnd_inv e
      split at e
      · cases e
        exact one R ea fun v H1 φ1 p1 => ⟨_, RepV.toInt p1.val, q _ _ p1.stp p1.rel⟩
      · cases e
theorem k_slc {lo hi : Option CE} (sa : SE T k a) (sl : ∀ c, lo = some c → SE T k c) (sh : ∀ c, hi = some c → SE T k c) : SE T k (.slc a lo hi) := by
  refine .plain (fun X sc e g h => ?_) fun sc N e h => ?_
  · unfold mE at h
    split at h
    · rename_i x l h' _ p
      simp only [Bool.and_eq_true] at h
      obtain ⟨⟨h1, h2⟩, h3⟩ := h
      refine peC (pe_slice (sl_any X) (sa.pe X sc x g h1) (po_of g sl h2) (po_of g sh h3)) fun σ H Q ⟨φ, out, ρ, S, o, ρ', S', R, e, q⟩ => ?_
      simp only [ev, evE] at e
      obtain ⟨x, ρ1, S1, ea, e⟩ := bnd_inv e
      obtain ⟨i, ρ2, S2, eb, e⟩ := bnd_inv e
      obtain ⟨j, ρ3, S3, ec, e⟩ := bnd_inv e
      obtain ⟨dx, ex, e⟩ := obd_inv e
      obtain ⟨w, er, e⟩ := obd_inv e
      cases e
      refine one R ea fun v H1 φ1 p1 => ⟨φ1, out, ρ1, S1, i, ρ2, S2, p1.rel, eb, fun H2 φ2 t2 R2 => ⟨φ2, out, ρ2, S2, j, _, _, R2, ec, fun H3 φ3 t3 R3 => ?_⟩⟩
      have m := (t2.trans t3).mv (out' := out) p1.rel fun _ z => .inl z
      exact slc_rule (cont_ok R3 ((p1.val.op p1.rel).mv m) ex) er (resEnd (slc_fr er).1 (slc_fr er).2 (p1.stp.trans (t2.trans t3)) R3 q)
    · cases h
  · cases e <;> first
      | rfl
      | cases h
end
end Sk

/-! Sk11: displays, calls. -/
namespace Sk
open PySem PySem.Spec PyProof.Rows L2

theorem all_inv {e : Expr} {l : List Expr} {c : CE} {cs : List CE} {sc : Scope} {N : List Str} (h : mEs sc N (c :: cs) (e :: l) = true) : mE sc N c e = true ∧ plainE e = true ∧ mEs sc N cs l = true := by
  have h' : (mE sc N c e && plainE e && mEs sc N cs l) = true := h
  simp only [Bool.and_eq_true] at h'
  exact ⟨h'.1.1, h'.1.2, h'.2⟩
theorem star_all {sc : Scope} {N : List Str} {env : Env} : ∀ {cs : List CE} {l : List Expr}, mEs sc N cs l = true → starEach l env = l.map fun e => (false, eval e env)
  | [], [], _ => rfl
  | [], _ :: _, h => by cases h
  | _ :: _, [], h => by cases h
  | c :: cs, e :: l, h => by
    obtain ⟨h1, h2, h3⟩ := all_inv h
    rw [star_plain h2, star_all h3, List.map_cons]
theorem back_any {l : List Expr} {env : Env} {pos : Pos} (h : starEach l env = l.map fun e => (false, eval e env)) : (backTo pos (starEach l env)).any (·.1) = false := by
  rw [h]
  unfold backTo
  simp [List.any_map]
theorem back_all {l : List Expr} {env : Env} {pos : Pos} (h : starEach l env = l.map fun e => (false, eval e env)) : (backTo pos (starEach l env)).all (fun x => !x.1) = true := by
  rw [h]
  unfold backTo
  simp [List.all_map]
section
variable {T : Tab} {k : Nat} {c a b d : CE} {es : List CE}
theorem pa_of {X : Cx} {sc : Scope} (g : Good T k X sc) : ∀ {es : List CE} {l : List Expr}, (∀ c ∈ es, SE T k c) → mEs sc X.N es l = true → PA X l (TAv T k X es)
  | [], [], _, _ => by
    refine paC pa_nil fun σ H Q ⟨φ, out, ρ, S, ds, ρ', S', R, e, q⟩ => ?_
    have e' : some (([] : List D), ρ, S) = some (ds, ρ', S') := e
    cases e'
    exact q [] H φ .refl R .nil
  | [], _ :: _, _, h => by cases h
  | _ :: _, [], _, h => by cases h
  | c :: es, e :: l, s, h => by
    obtain ⟨h1, h2, h3⟩ := all_inv h
    refine paC (pa_cons ((s c List.mem_cons_self).pe X sc e g h1) (pa_of g (fun c hc => s c (List.mem_cons_of_mem _ hc)) h3) (star_plain h2)) fun σ H Q ⟨φ, out, ρ, S, ds, ρ', S', R, e, q⟩ => ?_
    simp only [evs, evL] at e
    obtain ⟨x, ρ1, S1, ea, e⟩ := bnd_inv e
    obtain ⟨d, ed, e⟩ := obd_inv e
    obtain ⟨rs, ρ2, S2, er, e⟩ := bnd_inv e
    cases e
    refine one R ea fun v H1 φ1 p1 => ⟨φ1, out, ρ1, S1, rs, _, _, p1.rel, er, fun vs H2 φ2 t2 R2 hvs => ?_⟩
    exact q _ H2 φ2 (p1.stp.trans t2) R2 (.cons ((ROp.toV p1.rel p1.val ed).mv (t2.mv p1.rel fun _ z => .inl z)) hvs)
theorem k_tup (s : ∀ c ∈ es, SE T k c) : SE T k (.tup es) := by
  refine .plain (fun X sc e g h => ?_) fun sc N e h => ?_
  · unfold mE at h
    split at h
    · refine peC (pe_tup (pa_of g s h)) fun σ H Q ⟨φ, out, ρ, S, o, ρ', S', R, e, q⟩ => ?_
      simp only [ev, evE] at e
      obtain ⟨ds, ρ1, S1, ea, e⟩ := bnd_inv e
      split at e
      · rename_i hz
        cases e
        exact ⟨φ, out, ρ, S, ds, _, _, R, ea, fun vs H1 φ1 t R1 hv => ⟨by rw [← hv.length]; exact hz, fun p hp => q _ _ _ (endTup t R1 hv hp)⟩⟩
      · cases e
    · cases h
  · cases e <;> first
      | rfl
      | cases h
theorem k_lst (s : ∀ c ∈ es, SE T k c) : SE T k (.lst es) := by
  refine .plain (fun X sc e g h => ?_) fun sc N e h => ?_
  · unfold mE at h
    split at h
    · refine peC (pe_lst (pa_of g s h)) fun σ H Q ⟨φ, out, ρ, S, o, ρ', S', R, e, q⟩ => ?_
      simp only [ev, evE] at e
      obtain ⟨ds, ρ1, S1, ea, e⟩ := bnd_inv e
      split at e
      · rename_i hz
        cases e
        exact ⟨φ, out, ρ, S, ds, _, _, R, ea, fun vs H1 φ1 t R1 hv => ⟨by rw [← hv.length]; exact hz, fun p hp => q _ _ _ (endLst t R1 hv hp)⟩⟩
      · cases e
    · cases h
  · cases e <;> first
      | rfl
      | cases h

/-! ### a dict of written pairs -/
theorem RepK.merge {K : PySem.W.Frag} {mg : Str → Option Value} {φ : List Addr} {ex : Addr → Prop} {H : Hp} : ∀ {more : List (D × D)} {us : List (Key × V)} {ds : List (D × D)} {vs : List (Key × V)}, RepK K mg φ ex H more us → RepK K mg φ ex H ds vs →
    RepK K mg φ ex H (more.foldl (fun acc p => dput acc p.1 p.2) ds) (mergeK vs us)
  | _, _, _, _, .nil, r => r
  | _, _, _, _, .cons k h m, r => by
    have q := RepK.merge m (r.put k h)
    exact q
def pairsV : List V → List (V × V)
  | a :: b :: r => (a, b) :: pairsV r
  | _ => []
def trsOf (T : Tab) (k : Nat) (X : Cx) : List CE → List (TE × TE)
  | a :: b :: r => (TEv T k X a, TEv T k X b) :: trsOf T k X r
  | _ => []
theorem pps_of {X : Cx} {sc : Scope} {pos : Pos} (g : Good T k X sc) : ∀ {es : List CE} {ks : List (Option Expr)} {vs : List Expr}, (∀ c ∈ es, SE T k c) → mDs sc X.N es ks vs = true → PPs X pos ks vs (trsOf T k X es) ∧ ks.all (·.isSome) = true ∧ es.length = 2 * ks.length
  | [], [], [], _, _ => ⟨pps_nil, rfl, rfl⟩
  | [], [], _ :: _, _, h => by cases h
  | [], _ :: _, _, _, h => by cases h
  | [_], _, _, _, h => by cases h
  | _ :: _ :: _, [], _, _, h => by cases h
  | _ :: _ :: _, none :: _, _, _, h => by cases h
  | _ :: _ :: _, some _ :: _, [], _, h => by cases h
  | a :: b :: es, some x :: ks, y :: vs, s, h => by
    have h' : (mE sc X.N a x && mE sc X.N b y && mDs sc X.N es ks vs) = true := h
    simp only [Bool.and_eq_true] at h'
    obtain ⟨p1, p2, p3⟩ := pps_of (pos := pos) g (fun c hc => s c (List.mem_cons_of_mem _ (List.mem_cons_of_mem _ hc))) h'.2
    refine ⟨pps_cons ((s a List.mem_cons_self).pe X sc x g h'.1.1) ((s b (List.mem_cons_of_mem _ List.mem_cons_self)).pe X sc y g h'.1.2) p1, by rw [List.all_cons, p2]; rfl, ?_⟩
    simp only [List.length_cons]
    omega
theorem pairs_run {X : Cx} {σ : L2.St} {out : Addr → Prop} : ∀ {es : List CE} {φ : List Addr} {ρ ρ' : Env'} {S S' : Sto} {H : Hp} {ds : List D} {kvs : List (D × D)} {Q : List (V × V) → Hp → Prop}, Rel X.K X.mg φ out ρ S σ H → evs T k es ρ S = some (ds, ρ', S') → pairUp ds = some kvs →
    (kvs.all fun p => isKey p.1) = true → (∀ us H' φ', Stp φ ρ σ H φ' ρ' σ H' → Rel X.K X.mg φ' out ρ' S' σ H' → RepK X.K X.mg φ' (exc φ' out ρ' σ) H' kvs us → Q (us.map fun kv => (kV kv.1, kv.2)) H') → tPairs (trsOf T k X es) σ H Q
  | [], φ, ρ, ρ', S, S', H, ds, kvs, Q, R, e, ep, _, q => by
    have e' : some (([] : List D), ρ, S) = some (ds, ρ', S') := e
    cases e'
    cases ep
    exact q [] H φ .refl R .nil
  | [a], φ, ρ, ρ', S, S', H, ds, kvs, Q, R, e, ep, _, q => by
    simp only [evs, evL] at e
    obtain ⟨x, ρ1, S1, ea, e⟩ := bnd_inv e
    obtain ⟨d, ed, e⟩ := obd_inv e
    cases e
    cases ep
  | a :: b :: es, φ, ρ, ρ', S, S', H, ds, kvs, Q, R, e, ep, hk, q => by
    simp only [evs, evL] at e
    obtain ⟨x, ρ1, S1, ea, e⟩ := bnd_inv e
    obtain ⟨dx, ex, e⟩ := obd_inv e
    obtain ⟨ds1, ρ2, S2, e2, e⟩ := bnd_inv e
    obtain ⟨y, ρ3, S3, eb, e2⟩ := bnd_inv e2
    obtain ⟨dy, ey, e2⟩ := obd_inv e2
    obtain ⟨ds2, ρ4, S4, e3, e2⟩ := bnd_inv e2
    cases e2
    cases e
    have ep' : (pairUp ds2).map ((dx, dy) :: ·) = some kvs := ep
    simp only [Option.map_eq_some_iff] at ep'
    obtain ⟨kvs2, ep2, rfl⟩ := ep'
    rw [List.all_cons, Bool.and_eq_true] at hk
    refine one R ea fun v H1 φ1 p1 => one p1.rel eb fun u H2 φ2 p2 => pairs_run p2.rel e3 ep2 hk.2 fun us H3 φ3 t3 R3 hus => ?_
    obtain ⟨k', ek⟩ := isKey_to hk.1
    have m2 := p2.stp.mv (out' := out) p1.rel fun _ z => .inl z
    have m3 := t3.mv (out' := out) p2.rel fun _ z => .inl z
    have hv := ((ROp.toV p1.rel p1.val ex).mv m2).mv m3
    have hu := (ROp.toV p2.rel p2.val ey).mv m3
    have := q ((k', u) :: us) H3 φ3 ((p1.stp.trans p2.stp).trans t3) R3 (.cons ek hu hus)
    rw [List.map_cons] at this
    rw [toKey_kV ek hv]
    exact this
theorem RepK.klen {K : PySem.W.Frag} {mg : Str → Option Value} {φ : List Addr} {ex : Addr → Prop} {H : Hp} {ds : List (D × D)} {vs : List (Key × V)} (h : RepK K mg φ ex H ds vs) : vs.length = ds.length := h.length.symm
theorem k_dis (s : ∀ c ∈ es, SE T k c) : SE T k (.dis es) := by
  refine .plain (fun X sc e g h => ?_) fun sc N e h => ?_
  · unfold mE at h
    split at h
    · rename_i ks vs p
      simp only [Bool.and_eq_true, decide_eq_true_eq] at h
      obtain ⟨⟨h1, h2⟩, h3⟩ := h
      obtain ⟨p1, p2, p3⟩ := pps_of (pos := p) g s h3
      have main : ∀ (σ : L2.St) (H : Hp) (Q : VK), TEv T k X (.dis es) σ H Q → tDisp (trsOf T k X es) σ H Q := fun σ H Q ⟨φ, out, ρ, S, o, ρ', S', R, e, q⟩ => by
        simp only [ev, evE] at e
        obtain ⟨ds, ρ1, S1, ea, e⟩ := bnd_inv e
        obtain ⟨kvs, ep, e⟩ := obd_inv e
        split at e
        · rename_i hz
          cases e
          intro p hp
          have R1 := R.newOut (ho := .dK []) hp
          have t1 : Stp φ ρ σ H φ ρ σ (upd H p (.dK [])) := new_stp hp
          refine pairs_run R1 ea ep hz.2 fun us H' φ' t R' hus => ?_
          have hD : H' p = some (.dK []) := R1.outKeep (.inr rfl) upd_same t
          refine ⟨hD, us, rfl, by rw [hus.klen]; exact hz.1, q _ _ φ' ⟨(t1.trans t).outUpd hp, ?_, p, rfl, ?_, ⟨_, upd_same, ?_⟩, fun z => R.ot p z hp, .inl hp⟩⟩
          · exact (R'.outUpd (.inr rfl)).less fun _ z => .inl z
          · exact R'.outUpd (.inr rfl)
          · exact (RepK.merge hus .nil).mv (upd_mv (.inr (.inl (.inr rfl))))
        · cases e
      by_cases h0 : ks = []
      · subst h0
        have hv : vs = [] := List.eq_nil_of_length_eq_zero h1.symm
        subst hv
        have he : es = [] := List.eq_nil_of_length_eq_zero p3
        subst he
        refine peC pe_dnewK fun σ H Q ⟨φ, out, ρ, S, o, ρ', S', R, e, q⟩ => ?_
        have e' : some (Op.fr (.dct []), ρ, S) = some (o, ρ', S') := e
        cases e'
        exact fun p hp => q _ _ _ (endDct .refl R .nil hp)
      · exact peC (pe_disp p1 p2 h1 h0 h2) main
    · cases h
  · cases e <;> first
      | rfl
      | cases h

/-! ### built-in functions -/
theorem bf_boot {f : BF} {fv : Value} (h : bfVal f = some fv) : bootBuiltins (bfName f) = some fv ∧ bfName f ∈ bNames ∧ ((∃ id, fv = .builtin id) ∨ ∃ t, fv = .type t) := by
  cases f <;> first
    | (cases h; done)
    | (cases h; exact ⟨by decide +kernel, by decide, .inl ⟨_, rfl⟩⟩)
    | (cases h; exact ⟨by decide +kernel, by decide, .inr ⟨_, rfl⟩⟩)
theorem bf2_boot {f : BF} {fv : Value} (h : bf2Val f = some fv) : bootBuiltins (bfName f) = some fv ∧ bfName f ∈ bNames ∧ ((∃ id, fv = .builtin id) ∨ ∃ t, fv = .type t) := by
  cases f <;> first
    | (cases h; done)
    | (cases h; exact ⟨by decide +kernel, by decide, .inl ⟨_, rfl⟩⟩)
theorem pe_bfn {X : Cx} {sc : Scope} (g : Good T k X sc) {x : Str} {p pos : Pos} {e : Expr} {es : List Expr} {t : TA} {fv : Value} (hx : gloB sc x = true) (hb : bootBuiltins x = some fv) (hn : x ∈ bNames) (hf : (∃ id, fv = .builtin id) ∨ ∃ t, fv = .type t) (ha : PA X (e :: es) t)
    (he : starEach (e :: es) X.env = (false, eval e X.env) :: starEach es X.env) (hs : (backTo pos (starEach es X.env)).any (·.1) = false) : PE X (.Call (.Name x p) (e :: es) [] pos) (tCB (anyC X fv) t) := by
  obtain ⟨g1, g2, g3, g4⟩ := g.gl hx
  rcases hf with ⟨id, rfl⟩ | ⟨t, rfl⟩
  · exact pe_callB (call_any X _) g1 (g.blt x hn) hb ha g4 g2 he hs
  · exact pe_callTy (call_any X _) g1 (g.blt x hn) hb ha g4 g2 he hs
theorem pa1 {X : Cx} {e : Expr} {t : TE} (h : PE X e t) (hp : plainE e = true) : PA X [e] (tCons t tNil) := pa_cons h pa_nil (star_plain hp)
theorem boot_ty : ∀ t ∈ tys, bootBuiltins (Str.ofString t) = some (.type t) ∧ Str.ofString t ∈ bNames := by decide +kernel
theorem lenset_inv {d : D} {r : Op} (e : bfD .lenset d = some r) : ∃ ds ns, d = .lst ds ∧ intsD ds = some ns ∧ ns.length ≤ 4000 ∧ r = .fz (.int (ddI ns).length) := by
  cases d <;> first
    | (cases e; done)
    | skip
  case lst ds =>
    have e : ((intsD ds).filter fun ns => decide (ns.length ≤ 4000)).map (fun ns => Op.fz (.int (ddI ns).length)) = some r := e
    cases h : intsD ds with
    | none => rw [h] at e; cases e
    | some ns =>
      rw [h] at e
      by_cases hl : ns.length ≤ 4000
      · rw [Option.filter_some, if_pos (decide_eq_true hl)] at e
        cases e
        exact ⟨ds, ns, rfl, h, hl, rfl⟩
      · rw [Option.filter_some, if_neg (by simpa using hl)] at e
        cases e
theorem k_bf {f : BF} (sa : SE T k a) : SE T k (.bf f a) := by
  refine .plain (fun X sc e g h => ?_) fun sc N e h => ?_
  · unfold mE at h
    split at h
    · rename_i x p y pos
      rw [Bool.or_eq_true] at h
      rcases h with h | h
      case inr =>
        split at h
        · rename_i p3 y' p2 z q
          simp only [Bool.and_eq_true, decide_eq_true_eq] at h
          obtain ⟨⟨⟨⟨⟨rfl, rfl⟩, h1⟩, h2⟩, h3⟩, h4⟩ := h
          obtain ⟨g1, _⟩ := g.gl h1
          obtain ⟨g2, _⟩ := g.gl h2
          refine peC (pe_lenSetI g.calm g1 (g.blt _ (by decide)) g2 (g.blt _ (by decide)) (sa.pe X sc _ g h3) (star_plain h4)) fun σ H Q ⟨φ, out, ρ, S, o, ρ', S', R, e, q⟩ => ?_
          simp only [ev, evE] at e
          obtain ⟨x, ρ1, S1, ea, e⟩ := bnd_inv e
          obtain ⟨dx, ex, e⟩ := obd_inv e
          obtain ⟨w, er, e⟩ := obd_inv e
          cases e
          obtain ⟨ds, ns, rfl, en, hl, rfl⟩ := lenset_inv er
          refine one R ea fun v H1 φ1 p1 => ?_
          obtain ⟨b, vs, rfl, hq, r1⟩ := look_ok p1.rel (p1.val.op p1.rel) ex
          have ev := r1.ofInts en
          subst ev
          exact ⟨b, ns, rfl, hq, hl, q _ _ _ (endFz p1.stp p1.rel (.int _))⟩
        · cases h
      simp only [Bool.and_eq_true, decide_eq_true_eq] at h
      obtain ⟨⟨⟨⟨rfl, h1⟩, h2⟩, h3⟩, h4⟩ := h
      obtain ⟨fv, hf⟩ := Option.isSome_iff_exists.mp h4
      obtain ⟨b1, b2, b3⟩ := bf_boot hf
      refine peC (pe_bfn g h1 b1 b2 b3 (pa1 (sa.pe X sc y g h2) h3) (star_plain h3) rfl) fun σ H Q ⟨φ, out, ρ, S, o, ρ', S', R, e, q⟩ => ?_
      simp only [ev, evE] at e
      obtain ⟨x, ρ1, S1, ea, e⟩ := bnd_inv e
      obtain ⟨dx, ex, e⟩ := obd_inv e
      obtain ⟨w, er, e⟩ := obd_inv e
      cases e
      exact one R ea fun v H1 φ1 p1 => bf_rule g.calm hf (look_ok p1.rel (p1.val.op p1.rel) ex) er (resEnd (bf_fr er).1 (bf_fr er).2 p1.stp p1.rel q)
    · rename_i x p y z p2 pos
      split at h
      · rename_i t
        simp only [Bool.and_eq_true, decide_eq_true_eq] at h
        obtain ⟨⟨⟨⟨⟨⟨rfl, h1⟩, h2⟩, rfl⟩, h5⟩, h3⟩, h4⟩ := h
        obtain ⟨c1, c2⟩ := boot_ty t h5
        obtain ⟨g1, g2, g3, g4⟩ := g.gl h2
        have pz : PE X (.Name (Str.ofString t) p2) (tC (.ty t)) := pe_bltn g1 (g.blt _ c2) c1 rfl g4 g2
        refine peC (pe_bfn g h1 boot_isinstance (by decide) (.inl ⟨_, rfl⟩) (pa_cons (sa.pe X sc y g h3) (pa1 pz rfl) (star_plain h4)) (star_plain h4) rfl) fun σ H Q ⟨φ, out, ρ, S, o, ρ', S', R, e, q⟩ => ?_
        simp only [ev, evE] at e
        obtain ⟨x, ρ1, S1, ea, e⟩ := bnd_inv e
        obtain ⟨dx, ex, e⟩ := obd_inv e
        obtain ⟨w, er, e⟩ := obd_inv e
        cases e
        have er' : (isaD t dx).map (fun b => Op.fz (.bl b)) = some o := er
        simp only [Option.map_eq_some_iff] at er'
        obtain ⟨bb, er', rfl⟩ := er'
        exact one R ea fun v H1 φ1 p1 => isa_rule (look_ok p1.rel (p1.val.op p1.rel) ex) er' (q _ _ _ (endFz p1.stp p1.rel (.bl _)))
      · cases h
    · cases h
  · cases e <;> first
      | rfl
      | cases h
theorem k_bf2 {f : BF} (sa : SE T k a) (sb : SE T k b) : SE T k (.bf2 f a b) := by
  refine .plain (fun X sc e g h => ?_) fun sc N e h => ?_
  · unfold mE at h
    split at h
    · rename_i x p y z pos
      simp only [Bool.and_eq_true, decide_eq_true_eq] at h
      obtain ⟨⟨⟨⟨⟨⟨rfl, h1⟩, h2⟩, h3⟩, h4⟩, h5⟩, h6⟩ := h
      obtain ⟨fv, hf⟩ := Option.isSome_iff_exists.mp h6
      obtain ⟨b1, b2, b3⟩ := bf2_boot hf
      have hs : starEach [z] X.env = [z].map fun e => (false, eval e X.env) := star_plain h5
      refine peC (pe_bfn g h1 b1 b2 b3 (pa_cons (sa.pe X sc y g h2) (pa1 (sb.pe X sc z g h3) h5) (star_plain h4)) (star_plain h4) (back_any hs)) fun σ H Q ⟨φ, out, ρ, S, o, ρ', S', R, e, q⟩ => ?_
      simp only [ev, evE] at e
      obtain ⟨x, ρ1, S1, ea, e⟩ := bnd_inv e
      obtain ⟨y, ρ2, S2, eb, e⟩ := bnd_inv e
      obtain ⟨dx, ex, e⟩ := obd_inv e
      obtain ⟨dy, ey, e⟩ := obd_inv e
      obtain ⟨w, er, e⟩ := obd_inv e
      cases e
      exact two R ea eb fun v u H2 φ2 t R2 hv hu => bf2_rule g.calm hf (look_ok R2 hv ex) (look_ok R2 hu ey) er (resEnd (bf2_fr er).1 (bf2_fr er).2 t R2 q)
    · cases h
  · cases e <;> first
      | rfl
      | cases h
end
end Sk

/-! Sk12: calls, methods, comprehensions; all expressions. -/
namespace Sk
open PySem PySem.Spec PyProof.Rows L2

section
variable {K : PySem.W.Frag} {mg : Str → Option Value} {φ φ' : List Addr} {out out' : Addr → Prop} {ρ : Env'} {S S' : Sto} {σ : L2.St} {H H' : Hp}
/-- the caller's own things are nobody else's, for the callee -/
theorem Rel.callee (R : Rel K mg φ out ρ S σ H) : Rel K mg φ (fun b => out b ∨ ownA ρ σ b) [] S [] H ∧ ∀ b, exc φ (fun b => out b ∨ ownA ρ σ b) [] [] b ↔ exc φ out ρ σ b := by
  have hx : ∀ b, exc φ (fun b => out b ∨ ownA ρ σ b) [] [] b ↔ exc φ out ρ σ b := fun b => by
    constructor
    · rintro (z | (z | z) | ⟨i, d, e, _⟩)
      · exact .inl z
      · exact .inr (.inl z)
      · exact .inr (.inr z)
      · cases e
    · rintro (z | z | z)
      · exact .inl z
      · exact .inr (.inl (.inl z))
      · exact .inr (.inl (.inr z))
  have m : Mv φ φ (exc φ out ρ σ) (exc φ (fun b => out b ∨ ownA ρ σ b) [] []) H H := .less fun b z => (hx b).mp z
  refine ⟨⟨rfl, fun i d e => (by cases e), fun i d e => (by cases e), fun i j a d e z => (by cases z), fun n o e => ?_, R.sl, R.nd, fun a q z => ?_, fun a z => ?_⟩, hx⟩
  · obtain ⟨a, e1, h1⟩ := R.st n o e
    exact ⟨a, e1, h1.mv m fun _ q => q⟩
  · rcases z with z | ⟨i, d, e1, e2⟩
    · exact R.no a q z
    · obtain ⟨b, e3, _, h, _⟩ := R.ow i d e1
      rw [e2] at e3
      cases e3
      exact h q
  · rcases z with z | z
    · exact R.ot a z
    · exact R.ex_some (.inr (.inr z))
/-- behind the call: o2 as out, or with the new object -/
theorem Rel.caller {o2 o3 : Addr → Prop} (R : Rel K mg φ out ρ S σ H) (t : Stp φ [] [] H φ' [] [] H') (R' : Rel K mg φ' o3 [] S' [] H') (h23 : ∀ b, o2 b ∨ ownA ρ σ b → o3 b) (h2 : ∀ b, o2 b → out b ∨ H b = none) :
    Stp φ ρ σ H φ' ρ σ H' ∧ Rel K mg φ' o2 ρ S' σ H' ∧ ∀ b, exc φ' o2 ρ σ b → exc φ' o3 [] [] b := by
  have t2 : Stp φ ρ σ H φ' ρ σ H' := ⟨t.pre, fun b z => (t.nw b z).imp id fun z => z.imp id (fun ⟨i, d, z, _⟩ => (by cases z)), fun b o e n1 n2 => t.fr b o e n1 (fun ⟨i, d, z, _⟩ => by cases z), fun b z => .inl z, t.kp⟩
  have hx : ∀ b, exc φ' o2 ρ σ b → exc φ' o3 [] [] b := fun b z => by
    rcases z with z | z | z
    · exact .inl z
    · exact .inr (.inl (h23 b (.inl z)))
    · exact .inr (.inl (h23 b (.inr z)))
  have m : Mv φ φ' (exc φ out ρ σ) (exc φ' o2 ρ σ) H H' := t2.mv R h2
  have m2 : Mv φ' φ' (exc φ' o3 [] []) (exc φ' o2 ρ σ) H' H' := .less hx
  refine ⟨t2, ⟨R.len, fun i d e => ?_, fun i d e => ?_, R.owi, fun n o e => ?_, R'.sl, R'.nd, fun a q z => R'.no a q (h23 a (.inl z)), fun a z => R'.ot a (h23 a (.inl z))⟩, hx⟩
  · obtain ⟨v, e1, h1⟩ := R.va i d e
    exact ⟨v, e1, h1.mv m⟩
  · obtain ⟨a, e1, h1, h3, h4⟩ := R.ow i d e
    refine ⟨a, e1, h1.mv m fun w hw => t.fr a w hw h3 (fun ⟨i, d, z, _⟩ => by cases z), fun z => ?_, fun z => ?_⟩
    · exact (t.nw a z).elim h3 fun z => z.elim (fun z => h1.some z) (fun ⟨i, d, z, _⟩ => (by cases z))
    · exact (h2 a z).elim h4 fun z => h1.some z
  · obtain ⟨a, e1, h1⟩ := R'.st n o e
    exact ⟨a, e1, h1.mv m2 fun _ q => q⟩
theorem Rel.called (R : Rel K mg φ out ρ S σ H) {r : Op} {v : V} (p : Post K mg φ (fun b => out b ∨ ownA ρ σ b) [] [] H r [] S' v H' φ') : Post K mg φ out ρ σ H r ρ S' v H' φ' := by
  obtain ⟨t1, r1, x1⟩ := R.caller p.stp p.rel (fun b z => z) (fun b z => .inl z)
  refine ⟨t1, r1, ?_⟩
  have h := p.val
  cases r with
  | fz d => exact RepV.mv (Mv.less x1) h
  | sl i =>
    obtain ⟨a, d, e, _⟩ := h
    cases e
  | fr d =>
    obtain ⟨a, e, h1, h2, h3, h4⟩ := h
    have hn : H a = none := h4.elim id fun ⟨i, d, z, _⟩ => by cases z
    obtain ⟨t2, r2, x2⟩ := R.caller (o2 := fun b => out b ∨ b = a) p.stp h1 (fun b z => z.elim (fun z => z.elim (fun z => .inl (.inl z)) .inr) fun z => .inl (.inr z)) (fun b (z : out b ∨ b = a) => z.imp id fun (z : b = a) => by rw [z]; exact hn)
    exact ⟨a, e, r2, ObjD.mv (Mv.less x2) h2 fun _ q => q, fun z => h3 (.inl z), .inl hn⟩
end
section
variable {T : Tab} {k : Nat} {c a b d : CE} {es : List CE}
theorem k_call {f : Str} (s : ∀ c ∈ es, SE T k c) : SE T k (.call f es) := by
  refine .plain (fun X sc e g h => ?_) fun sc N e h => ?_
  · unfold mE at h
    split at h
    · rename_i x p l pos
      simp only [Bool.and_eq_true, decide_eq_true_eq] at h
      obtain ⟨⟨⟨rfl, h1⟩, h2⟩, hdef⟩ := h
      obtain ⟨g1, g2, g3, g4⟩ := g.gl h1
      cases hF : T.F x with
      | none =>
        refine ⟨fun pins s σ H Q I q => ?_⟩
        obtain ⟨φ, out, ρ, S, o, ρ', S', R, e, q⟩ := q
        simp only [ev, evE] at e
        obtain ⟨ds, ρ1, S1, ea, e⟩ := bnd_inv e
        obtain ⟨r, er, e⟩ := obd_inv e
        cases k with
        | zero => cases er
        | succ k =>
          have er' : obd (T.F x) (fun fn => runF T.G (callK T.G T.F T.M k) T.M fn ds S1) = some r := er
          rw [hF] at er'
          cases er'
      | some fn =>
        obtain ⟨A, fd, ps, m, hk, hb, F⟩ := g.F x fn hdef hF
        have main : ∀ (σ : L2.St) (H : Hp) (Q : VK), TEv T k X (.call x es) σ H Q → tCall (spF T k x X.K X.mg) [] (fun _ _ _ => False) (TAv T k X es) σ H Q := fun σ H Q ⟨φ, out, ρ, S, o, ρ', S', R, e, q⟩ => by
          simp only [ev, evE] at e
          obtain ⟨ds, ρ1, S1, ea, e⟩ := bnd_inv e
          obtain ⟨r, er, e⟩ := obd_inv e
          cases e
          refine ⟨φ, out, ρ, S, ds, _, S1, R, ea, fun vs H1 φ1 t1 R1 hv => ?_⟩
          obtain ⟨R2, hx⟩ := R1.callee
          refine ⟨φ1, _, S1, ds, r.1, r.2, R2, ?_, er, fun v H' φ' p => q v H' φ' ((R1.called p).trans t1)⟩
          rw [List.append_nil]
          exact hv.mv (.less fun b z => (hx b).mp z)
        cases l with
        | nil =>
          cases es with
          | nil =>
            refine peC (pe_call0 F g.room g1 m hk hb .nil pass0 g2) fun σ H Q q => ?_
            obtain ⟨φ, out, ρ, S, ds, ρ', S', R, ea, q⟩ := main σ H Q q
            have e' : some (([] : List D), ρ, S) = some (ds, ρ', S') := ea
            cases e'
            exact q [] H φ .refl R .nil
          | cons c es => cases h2
        | cons y l =>
          cases es with
          | nil => cases h2
          | cons c es =>
            have hs := star_all (env := X.env) (all_inv h2).2.2
            exact peC (pe_call F g.room g1 m hk hb .nil pass0 (pa_of g s h2) g2 (star_plain (all_inv h2).2.1) (back_any hs)) main
    · cases h
  · cases e <;> first
      | rfl
      | cases h
/-! ### methods of built-in types -/
theorem mt_ty {m : MF} {d : D} {ds : List D} {r : D × Option D} (e : mtD m d ds = some r) : tyN d = some (mtT m) := by
  unfold mtD at e
  split at e <;> first
    | rfl
    | cases e
theorem tyV_of {K : PySem.W.Frag} {mg : Str → Option Value} {φ : List Addr} {ex : Addr → Prop} {H : Hp} {m : MF} {d : D} {v : V} (hm : m ≠ .get2) (h : CV K mg φ ex H d v) (e : tyN d = some (mtT m)) : tyV K (mtT m) v H := by
  have hd : mtT m ≠ "dict" := by cases m <;> first
    | exact absurd rfl hm
    | decide
  have hc : mtT m = "list" ∨ mtT m = "str" := by cases m <;> first
    | exact absurd rfl hm
    | exact .inl rfl
    | exact .inr rfl
  cases d with
  | lst ds =>
    obtain ⟨a, vs, rfl, hq, _⟩ := h
    have e' : some "list" = some (mtT m) := e
    exact .inl ⟨(Option.some.inj e').symm, vs, hq⟩
  | str x =>
    cases RepV.toStr h
    have e' : some "str" = some (mtT m) := e
    exact (Option.some.inj e').symm
  | dct kvs =>
    have e' : some "dict" = some (mtT m) := e
    exact absurd (Option.some.inj e').symm hd
  | _ =>
    exfalso
    first
      | (cases e; done)
      | (have e' := Option.some.inj e
         rcases hc with z | z <;> (rw [z] at e'; exact absurd e' (by decide)))
theorem mt_run {X : Cx} {m : MF} (hm : m ≠ .get2) {σ : L2.St} {H : Hp} {Q : VK} (h : TEv T k X (.mt m a es) σ H Q) : tBM X.K (mtT m) (anyM X (mtId m)) (TEv T k X a) (TAv T k X es) σ H Q := by
  obtain ⟨φ, out, ρ, S, o, ρ', S', R, e, q⟩ := h
  simp only [ev, evE] at e
  obtain ⟨x, ρ1, S1, ea, e⟩ := bnd_inv e
  obtain ⟨d0, e0, e⟩ := obd_inv e
  obtain ⟨ds, ρ2, S2, eb, e⟩ := bnd_inv e
  obtain ⟨dx, ex, e⟩ := obd_inv e
  split at e
  · rename_i ht
    obtain ⟨r, er, e⟩ := obd_inv e
    refine one R ea fun v H1 φ1 p1 => ⟨tyV_of hm (cont_ok p1.rel (p1.val.op p1.rel) e0) (ht.trans (mt_ty er)), φ1, out, ρ1, S1, ds, ρ2, S2, p1.rel, eb, fun vs H2 φ2 t2 R2 hvs => ?_⟩
    have t := p1.stp.trans t2
    have hv := (p1.val.op p1.rel).mv (t2.mv (out' := out) p1.rel fun _ z => .inl z)
    refine mt_rule hm (cont_ok R2 hv ex) hvs er ?_
    cases hr : r.2 with
    | none =>
      rw [hr] at e
      cases e
      exact fun w hw => q w H2 φ2 (endFz t R2 hw)
    | some d =>
      rw [hr] at e
      obtain ⟨⟨ρ3, S3⟩, es', e⟩ := obd_inv e
      cases e
      obtain ⟨p, rfl, ho, hx⟩ := cont_mut R2 hv ex es'
      have hx' : exc φ2 out ρ2 σ p := hx.imp id .inr
      refine ⟨p, rfl, ho, hx', fun w ho' hw new => ?_⟩
      obtain ⟨R3, t3, hi⟩ := setC_ok R2 hv es' new
      refine q w _ φ2 (endFz (t.trans t3) R3 ?_)
      exact (hw.mv (upd_mv hx')).mv (.less fun b z => (hi b).mp z)
  · cases e
theorem get2_inv {dx : D} {ds : List D} {r : D × Option D} (e : mtD .get2 dx ds = some r) : ∃ kvs kk dd, dx = .dct kvs ∧ ds = [kk, dd] ∧ isKey kk = true ∧ r = ((dget kvs kk).getD dd, none) := by
  cases dx with
  | dct kvs =>
    match ds, e with
    | [kk, dd], e =>
      have e' : (if isKey kk = true then some ((dget kvs kk).getD dd, (none : Option D)) else none) = some r := e
      split at e'
      · rename_i hk
        exact ⟨kvs, kk, dd, rfl, rfl, hk, (Option.some.inj e').symm⟩
      · cases e'
    | [], e => cases e
    | [_], e => cases e
    | _ :: _ :: _ :: _, e => cases e
  | _ => cases e
theorem ty_dict {d : D} (h : tyN d = some "dict") : ∃ kvs, d = .dct kvs := by
  cases d <;> first
    | exact ⟨_, rfl⟩
    | (cases h; done)
    | exact absurd (Option.some.inj h) (by decide)
theorem evs_two {ρ ρ' : Env'} {S S' : Sto} {kk dd : D} (e : evs T k es ρ S = some ([kk, dd], ρ', S')) : ∃ f d y ρ3 S3 z, es = [f, d] ∧ ev T k f ρ S = some (y, ρ3, S3) ∧ y.d = some kk ∧ ev T k d ρ3 S3 = some (z, ρ', S') ∧ z.d = some dd := by
  match es, e with
  | [], e => cases e
  | f :: es, e =>
    simp only [evs, evL] at e
    obtain ⟨y, ρ3, S3, ef, e⟩ := bnd_inv e
    obtain ⟨dy, ey, e⟩ := obd_inv e
    obtain ⟨ds1, ρ4, S4, eg, e⟩ := bnd_inv e
    cases e
    match es, eg with
    | [], eg => cases eg
    | d :: es, eg =>
      simp only [evL] at eg
      obtain ⟨z, ρ5, S5, ed, eg⟩ := bnd_inv eg
      obtain ⟨dz, ez, eg⟩ := obd_inv eg
      obtain ⟨ds2, ρ6, S6, eh, eg⟩ := bnd_inv eg
      cases eg
      match es, eh with
      | [], eh =>
        simp only [evL] at eh
        cases eh
        exact ⟨f, d, y, ρ3, S3, z, rfl, ef, ey, ed, ez⟩
      | c :: es, eh =>
        simp only [evL] at eh
        obtain ⟨z, ρ5, S5, ed, eg⟩ := bnd_inv eh
        obtain ⟨dz, ez, eg⟩ := obd_inv eg
        obtain ⟨ds2, ρ6, S6, eh, eg⟩ := bnd_inv eg
        cases eg
theorem k_mt {m : MF} (sa : SE T k a) (s : ∀ c ∈ es, SE T k c) : SE T k (.mt m a es) := by
  refine .plain (fun X sc e g h => ?_) fun sc N e h => ?_
  · unfold mE at h
    split at h
    · rename_i x n ap l p
      simp only [Bool.and_eq_true, decide_eq_true_eq] at h
      obtain ⟨⟨⟨⟨⟨rfl, h1⟩, h2⟩, h3⟩, h4⟩, h5⟩ := h
      obtain ⟨i1, i2, i3⟩ := mt_info m
      by_cases hm : m = .get2
      · subst hm
        have main : ∀ (σ : L2.St) (H : Hp) (Q : VK), TEv T k X (.mt .get2 a es) σ H Q → ∃ f d, es = [f, d] ∧ tDGet2 (TEv T k X a) (TEv T k X f) (TEv T k X d) σ H Q := fun σ H Q ⟨φ, out, ρ, S, o, ρ', S', R, e, q⟩ => by
          simp only [ev, evE] at e
          obtain ⟨x, ρ1, S1, ea, e⟩ := bnd_inv e
          obtain ⟨d0, e0, e⟩ := obd_inv e
          obtain ⟨ds, ρ2, S2, eb, e⟩ := bnd_inv e
          obtain ⟨dx, ex, e⟩ := obd_inv e
          split at e
          · rename_i ht
            obtain ⟨r, er, e⟩ := obd_inv e
            obtain ⟨kvs, kk, dd, rfl, rfl, hk, rfl⟩ := get2_inv er
            cases e
            obtain ⟨f, d, y, ρ3, S3, z, rfl, ef, ey, ed, ez⟩ := evs_two eb
            obtain ⟨k0, rfl⟩ := ty_dict ht
            refine ⟨f, d, rfl, one R ea fun v H1 φ1 p1 => ?_⟩
            obtain ⟨q1, ks0, rfl, hr0, _⟩ := cont_ok p1.rel (p1.val.op p1.rel) e0
            refine ⟨q1, rfl, .inl ⟨ks0, hr0⟩, one p1.rel ef fun u H2 φ2 p2 => one p2.rel ed fun w H3 φ3 p3 => ?_⟩
            have m3 := p3.stp.mv (out' := out) p2.rel fun _ z => .inl z
            have m2 := (p2.stp.trans p3.stp).mv (out' := out) p1.rel fun _ z => .inl z
            obtain ⟨q2, ks, eq2, hr, hrep⟩ := cont_ok p3.rel ((p1.val.op p1.rel).mv m2) ex
            cases eq2
            obtain ⟨k', ek⟩ := isKey_to hk
            have hkv := toKey_kV ek ((ROp.toV p2.rel p2.val ey).mv m3)
            obtain ⟨r1, r2, r3⟩ := hrep.get ek
            refine ⟨valV ks k', .inl ⟨ks, k', hr, hkv, rfl⟩, q _ _ _ (endFz ((p1.stp.trans p2.stp).trans p3.stp) p3.rel ?_)⟩
            cases hg : dget kvs kk with
            | none =>
              rw [r3 hg]
              exact ROp.toV p3.rel p3.val ez
            | some dd' =>
              obtain ⟨vv, e1, e2⟩ := r1 dd' hg
              rw [e1]
              exact e2
          · cases e
        match es, l, s, h4, main with
        | [f, d], [y, z], s, h4, main =>
          obtain ⟨q1, q2, q3⟩ := all_inv h4
          obtain ⟨q4, q5, _⟩ := all_inv q3
          have hs : starEach [y, z] X.env = [(false, eval y X.env), (false, eval z X.env)] := by rw [star_plain q2, star_plain q5]; rfl
          refine peC (pe_dget2 (by have := g.hu; omega) (sa.pe X sc x g h3) ((s f List.mem_cons_self).pe X sc y g q1) ((s d (List.mem_cons_of_mem _ List.mem_cons_self)).pe X sc z g q4) ⟨recv_base h2, ?_, h1, ?_⟩) fun σ H Q h => ?_
          · rw [hs]; rfl
          · rw [hs]; rfl
          · obtain ⟨f', d', e, h⟩ := main σ H Q h
            cases e
            exact h
        | [], l, s, h4, main => exact ⟨fun pins s σ H Q I q => by obtain ⟨_, _, e, _⟩ := main σ H Q q; cases e⟩
        | [_], l, s, h4, main => exact ⟨fun pins s σ H Q I q => by obtain ⟨_, _, e, _⟩ := main σ H Q q; cases e⟩
        | _ :: _ :: _ :: _, l, s, h4, main => exact ⟨fun pins s σ H Q I q => by obtain ⟨_, _, e, _⟩ := main σ H Q q; cases e⟩
        | [f, d], [], s, h4, main => cases h4
        | [f, d], [y], s, h4, main => exact absurd (all_inv h4).2.2 (by intro z; cases z)
        | [f, d], _ :: _ :: _ :: _, s, h4, main => exact absurd (all_inv (all_inv h4).2.2).2.2 (by intro z; cases z)
      · cases l with
        | nil =>
          cases es with
          | nil =>
            refine peC (pe_bm0 i1 i2 i3 (mt_any X _) (sa.pe X sc x g h3) (recv_base h2) h1) fun σ H Q q => ?_
            obtain ⟨φ, out, ρ, S, o, ρ', S', R, ea, q⟩ := mt_run hm q
            refine ⟨φ, out, ρ, S, o, ρ', S', R, ea, fun v H' φ' p => ⟨(q v H' φ' p).1, ?_⟩⟩
            obtain ⟨φ2, out2, ρ2, S2, ds2, ρ3, S3, R2, e2, q2⟩ := (q v H' φ' p).2
            have e' : some (([] : List D), ρ2, S2) = some (ds2, ρ3, S3) := e2
            cases e'
            exact q2 [] H' φ2 .refl R2 .nil
          | cons c es => cases h4
        | cons y l =>
          cases es with
          | nil => cases h4
          | cons c es =>
            have hs := star_all (env := X.env) (all_inv h4).2.2
            have hs0 := star_all (env := X.env) h4
            refine peC (pe_bm i1 i2 i3 (mt_any X _) (sa.pe X sc x g h3) (pa_of g s h4) (recv_base h2) ?_ h1 (star_plain (all_inv h4).2.1) (back_any hs)) fun σ H Q q => mt_run hm q
            rw [back_all hs0]
            simp only [Bool.true_and, Bool.and_eq_true, decide_eq_true_eq]
            refine ⟨rfl, ?_⟩
            simp only [List.length_cons, List.length_nil, List.isEmpty_nil, if_true] at h5 ⊢
            omega
    · cases h
  · cases e <;> first
      | rfl
      | cases h
end
end Sk

/-! SkL: dicts that are walked: locked meanwhile. -/
namespace Sk
open PySem PySem.Spec PyProof.Rows L2

/-- what stands in a heap, locked or not, stands in the other -/
structure Lke (H H' : Hp) : Prop where
  rd : ∀ b u, (∀ o x, u ≠ .frz o x) → Rd H b u → Rd H' b u
section
variable {K : PySem.W.Frag} {mg : Str → Option Value} {φ φ' : List Addr} {ex : Addr → Prop} {H H' : Hp}
theorem FzT.lk (m : Lke H H') {a : Addr} {xs : List V} (h : FzT K ex H a xs) : FzT K ex H' a xs := h.elim (fun z => .inl ⟨m.rd _ _ (fun _ _ z => nomatch z) z.1, z.2⟩) .inr
theorem FzL.lk (m : Lke H H') {a : Addr} {xs : List V} (h : FzL K ex H a xs) : FzL K ex H' a xs := h.elim (fun z => .inl ⟨m.rd _ _ (fun _ _ z => nomatch z) z.1, z.2⟩) .inr
theorem Lke.dK (m : Lke H H') {a : Addr} {ks : List (Key × V)} (h : Rd H a (.dK ks)) : Rd H' a (.dK ks) := m.rd _ _ (fun _ _ z => nomatch z) h
mutual
theorem RepV.lk (m : Lke H H') : ∀ {d : D} {v : V}, RepV K mg φ ex H d v → RepV K mg φ ex H' d v
  | _, _, .non => .non
  | _, _, .bl b => .bl b
  | _, _, .int i => .int i
  | _, _, .str x => .str x
  | _, _, .tup h r => .tup (h.lk m) (RepVs.lk m r)
  | _, _, .lst h r => .lst (h.lk m) (RepVs.lk m r)
  | _, _, .dct h n r => .dct (m.dK h) n (RepK.lk m r)
  | _, _, .ref h => .ref h
  | _, _, .fn h => .fn h
theorem RepVs.lk (m : Lke H H') : ∀ {ds : List D} {vs : List V}, RepVs K mg φ ex H ds vs → RepVs K mg φ ex H' ds vs
  | _, _, .nil => .nil
  | _, _, .cons h r => .cons (RepV.lk m h) (RepVs.lk m r)
theorem RepK.lk (m : Lke H H') : ∀ {ds : List (D × D)} {vs : List (Key × V)}, RepK K mg φ ex H ds vs → RepK K mg φ ex H' ds vs
  | _, _, .nil => .nil
  | _, _, .cons k h r => .cons k (RepV.lk m h) (RepK.lk m r)
end
theorem ObjD.lk (m : Lke H H') {a : Addr} {d : D} (h : ObjD K mg φ ex H a d) (k : H' a = H a) : ObjD K mg φ ex H' a d := by
  cases d <;> first
    | exact h.elim
    | (obtain ⟨vs, e, r⟩ := h; exact ⟨vs, k.trans e, r.lk m⟩)
theorem ObjS.lk (m : Lke H H') {a : Addr} {o : O} (h : ObjS K mg φ ex H a o) (k : H' a = H a) : ObjS K mg φ ex H' a o := by
  cases o with
  | da d => exact ObjD.lk m h k
  | ins c fs =>
    obtain ⟨C, dx, gs, e, h1, h2⟩ := h
    exact ⟨C, dx, gs, k.trans e, h1, Paired.mapP h2 fun _ _ z => ⟨z.1, z.2.lk m⟩⟩
variable {out : Addr → Prop} {ρ ρ' : Env'} {S S' : Sto} {σ σ' : L2.St}
theorem Rel.lk (m : Lke H H') (R : Rel K mg φ out ρ S σ H) (k : ∀ b, exc φ out ρ σ b → H' b = H b) (kp : ∀ b, H b ≠ none → H' b ≠ none) : Rel K mg φ out ρ S σ H' := by
  refine ⟨R.len, fun i d e => ?_, fun i d e => ?_, R.owi, fun n o e => ?_, R.sl, R.nd, R.no, fun a z => kp a (R.ot a z)⟩
  · obtain ⟨v, e1, h⟩ := R.va i d e
    exact ⟨v, e1, h.lk m⟩
  · obtain ⟨a, e1, h, h2⟩ := R.ow i d e
    exact ⟨a, e1, h.lk m (k a (.inr (.inr ⟨i, d, e, e1⟩))), h2⟩
  · obtain ⟨a, e1, h⟩ := R.st n o e
    exact ⟨a, e1, h.lk m (k a (.inl (List.mem_of_getElem? e1)))⟩
variable {a : Addr} {ks : List (Key × V)} {od : Obj}
theorem lk_on (e : H a = some (.dK ks)) : Lke H (upd H a (.frz od (.dK ks))) := ⟨fun b u nf r => by
  by_cases z : b = a
  · subst z
    rcases r with r | ⟨o, r⟩ <;> rw [e] at r
    · cases r
      exact .inr ⟨od, upd_same⟩
    · cases r
  · exact Rd.keep r fun o h => by rw [upd_ne z]; exact h⟩
theorem lk_off (e : H a = some (.frz od (.dK ks))) : Lke H (upd H a (.dK ks)) := ⟨fun b u nf r => by
  by_cases z : b = a
  · subst z
    rcases r with r | ⟨o, r⟩ <;> rw [e] at r
    · exact absurd (Option.some.inj r).symm (nf _ _)
    · cases r
      exact .inl upd_same
  · exact Rd.keep r fun o h => by rw [upd_ne z]; exact h⟩
theorem upd_kp {ho : HO} : ∀ b, H b ≠ none → (upd H a ho) b ≠ none := fun b z => by
  by_cases q : b = a
  · subst q; rw [upd_same]; exact fun z => nomatch z
  · rw [upd_ne q]; exact z
theorem Rel.lock (R : Rel K mg φ out ρ S σ H) (e : H a = some (.dK ks)) (n : ¬ exc φ out ρ σ a) : Rel K mg φ out ρ S σ (upd H a (.frz od (.dK ks))) :=
  R.lk (lk_on e) (fun b z => upd_ne fun q => n (q ▸ z)) upd_kp
theorem Rel.unlock (R : Rel K mg φ out ρ S σ H) (e : H a = some (.frz od (.dK ks))) (n : ¬ exc φ out ρ σ a) : Rel K mg φ out ρ S σ (upd H a (.dK ks)) :=
  R.lk (lk_off e) (fun b z => upd_ne fun q => n (q ▸ z)) upd_kp
/-- a step between the locks -/
theorem Stp.unlock (t : Stp φ ρ σ (upd H a (.frz od (.dK ks))) φ' ρ' σ' H') (e : H a = some (.dK ks)) (n : a ∉ φ) (n2 : ¬ ownA ρ σ a) : H' a = some (.frz od (.dK ks)) ∧ Stp φ ρ σ H φ' ρ' σ' (upd H' a (.dK ks)) := by
  have nn : ∀ b, (upd H a (.frz od (.dK ks))) b = none → H b = none := fun b z => Classical.byContradiction fun q => upd_kp b q z
  refine ⟨t.fr a _ upd_same n n2, t.pre, fun b hb => (t.nw b hb).imp id fun z => z.imp (nn b) id, fun b o h h1 h2 => ?_, fun b hb => (t.on b hb).imp id (nn b), fun b hb => upd_kp b (t.kp b (upd_kp b hb))⟩
  by_cases z : b = a
  · subst z
    rw [e] at h
    cases h
    exact upd_same
  · rw [upd_ne z]
    exact t.fr b o (by rw [upd_ne z]; exact h) h1 h2
end

/-! ### paths -/
/-- the value that stands where a path leads -/
def pathV (K : PySem.W.Frag) : CE → L2.St → Hp → V → Prop
  | .var i, σ, _, v => σ[i]? = some (some v)
  | .sub a (.int n), σ, H, v => ∃ p xs, pathV K a σ H (.ref p) ∧ SqT K H p xs ∧ atI xs n = some v
  | _, _, _, _ => False
section
variable {T : Tab} {k : Nat} {X : Cx} {sc : Scope} {φ : List Addr} {out : Addr → Prop} {ρ : Env'} {S : Sto} {σ : L2.St} {H H' : Hp}
theorem path_rep (R : Rel X.K X.mg φ out ρ S σ H) : ∀ {c : CE} {d : D}, pathD c ρ = some d → ∃ v, pathV X.K c σ H v ∧ RepV X.K X.mg φ (exc φ out ρ σ) H d v := by
  intro c d e
  match c, e with
  | .var i, e =>
    unfold pathD at e
    split at e
    · rename_i x hx
      cases e
      exact R.va i _ hx
    · cases e
  | .sub a (.int n), e =>
    unfold pathD at e
    split at e
    · rename_i ds hd
      obtain ⟨v, h1, h2⟩ := path_rep R hd
      obtain ⟨p, vs, rfl, h3, h4⟩ := tup_inv h2
      obtain ⟨w, e1, e2⟩ := atI_rep h4 e
      exact ⟨w, ⟨p, vs, h1, h3.sq, e1⟩, e2⟩
    · cases e
theorem pathV_lk (m : Lke H H') : ∀ {c : CE} {v : V}, pathV X.K c σ H v → pathV X.K c σ H' v := by
  intro c v h
  match c, h with
  | .var i, h => exact h
  | .sub a (.int n), h =>
    obtain ⟨p, xs, h1, h2, h3⟩ := h
    exact ⟨p, xs, pathV_lk m h1, h2.elim (fun h => .inl (m.rd _ _ (fun _ _ z => nomatch z) h)) .inr, h3⟩
theorem pe_path (g : Good T k X sc) : ∀ {c : CE} {e : Expr}, isPath c = true → mE sc X.N c e = true → PE X e (fun σ H Q => ∃ v, pathV X.K c σ H v ∧ Q v H) := by
  intro c e hp h
  match c, hp with
  | .var i, _ =>
    cases e with
    | Name x p =>
      have h' : (decide (X.N[i]? = some x) && visB sc x && okName x) = true := h
      simp only [Bool.and_eq_true, decide_eq_true_eq] at h'
      obtain ⟨⟨hN, hv⟩, hk⟩ := h'
      obtain ⟨d1, d2⟩ := okName_ne hk
      exact pe_var hN (g.vis hv) d1 d2
    | _ => cases h
  | .sub a (.int n), hp =>
    cases e with
    | Subscript x y p =>
      have h' : (mE sc X.N a x && mE sc X.N (.int n) y && plainE y) = true := h
      simp only [Bool.and_eq_true] at h'
      obtain ⟨⟨h1, h2⟩, h3⟩ := h'
      have pa := pe_path g (c := a) (e := x) hp h1
      have hy : ∃ j t u, y = .Constant (.int j) t u ∧ n = j := by
        cases y <;> first
          | (rename_i kk t u
             cases kk <;> first
               | (exact ⟨_, _, _, rfl, of_decide_eq_true h2⟩)
               | cases h2)
          | cases h2
      obtain ⟨j, t, u, rfl, rfl⟩ := hy
      refine peC (pe_ix ix_tup pa (pe_int (i := n)) (plain_ix h3)) fun σ H Q q => ?_
      obtain ⟨v, ⟨p, xs, h4, h5, h6⟩, q⟩ := q
      exact ⟨.ref p, h4, p, xs, n, v, rfl, rfl, h5, h6, q⟩
    | _ => cases h


def lkPath : It' → CE
  | .keys c => c
  | .items c => c
  | .values c => c
  | _ => .non
def lkRd : It' → TE → TI
  | .items _, t => iItems t
  | .values _, t => iVals t
  | _, t => iKeys t
abbrev pTE (K : PySem.W.Frag) (c : CE) : TE := fun σ H Q => ∃ v, pathV K c σ H v ∧ Q v H
theorem lk_pi (g : Good T k X sc) {c : It'} {e t : Expr} (hl : isLk c = true) (h : mI sc X.N c e t = true) : PI X t e (lkRd c (pTE X.K (lkPath c))) ∧ ∀ x, foldedSetIterable e X.env x = pure x := by
  cases c with
  | keys c =>
    have h' : (mE sc X.N c e && isPath c && plainE e && noSet e) = true := h
    simp only [Bool.and_eq_true] at h'
    obtain ⟨⟨⟨h1, h2⟩, h3⟩, h4⟩ := h'
    exact ⟨pi_keys (pe_path g h2 h1), fun x => plain_fold h4⟩
  | items c =>
    unfold mI at h
    split at h
    · rename_i y n ap p
      simp only [Bool.and_eq_true, decide_eq_true_eq] at h
      obtain ⟨⟨⟨⟨⟨rfl, h1⟩, h2⟩, h3⟩, h4⟩, h5⟩ := h
      cases t <;> first
        | (cases h5; done)
        | exact ⟨pi_items (pe_path g h4 h3) (recv_base h2) h1, fun x => rfl⟩
    · cases h
  | values c =>
    unfold mI at h
    split at h
    · rename_i y n ap p
      simp only [Bool.and_eq_true, decide_eq_true_eq] at h
      obtain ⟨⟨⟨⟨rfl, h1⟩, h2⟩, h3⟩, h4⟩ := h
      exact ⟨pi_values (pe_path g h4 h3) (recv_base h2) h1, fun x => rfl⟩
    · cases h
  | _ => cases hl
theorem dct_inv {K : PySem.W.Frag} {mg : Str → Option Value} {φ : List Addr} {ex : Addr → Prop} {H : Hp} {kvs : List (D × D)} {v : V} (h : RepV K mg φ ex H (.dct kvs) v) : ∃ a ks, v = .ref a ∧ Rd H a (.dK ks) ∧ ¬ ex a ∧ RepK K mg φ ex H kvs ks := by
  cases h with
  | dct h n r => exact ⟨_, _, rfl, h, n, r⟩
theorem lk_goes {c : It'} {ds : List D} {ρ1 : Env'} {S1 : Sto} (hl : isLk c = true) (R : Rel X.K X.mg φ out ρ S σ H) (ei : evi T k c ρ S = some (ds, ρ1, S1)) : ρ1 = ρ ∧ S1 = S ∧ ∃ a ks, Rd H a (.dK ks) ∧ ¬ exc φ out ρ σ a ∧
    ∀ H' o, Lke H H' → H' a = some (.frz o (.dK ks)) → ∀ Rr : It → Hp → Prop, (∀ J, ItOk X.K X.mg φ (exc φ out ρ σ) J ds H' → Rr J H') → lkRd c (pTE X.K (lkPath c)) σ H' Rr := by
  cases c with
  | keys c =>
    simp only [evi, evI] at ei
    obtain ⟨d, e1, ei⟩ := obd_inv ei
    obtain ⟨kvs, e2, ei⟩ := obd_inv ei
    cases ei
    cases d <;> first
      | (cases e2; done)
      | skip
    cases e2
    obtain ⟨v, p1, p2⟩ := path_rep R e1
    obtain ⟨a, ks, rfl, h1, n, r⟩ := dct_inv p2
    exact ⟨rfl, rfl, a, ks, h1, n, fun H' o m e Rr q => ⟨.ref a, pathV_lk m p1, a, o, rfl, .inl ⟨ks, e, q _ (itok_keys e n (r.lk m))⟩⟩⟩
  | items c =>
    simp only [evi, evI] at ei
    obtain ⟨d, e1, ei⟩ := obd_inv ei
    obtain ⟨kvs, e2, ei⟩ := obd_inv ei
    cases ei
    cases d <;> first
      | (cases e2; done)
      | skip
    cases e2
    obtain ⟨v, p1, p2⟩ := path_rep R e1
    obtain ⟨a, ks, rfl, h1, n, r⟩ := dct_inv p2
    exact ⟨rfl, rfl, a, ks, h1, n, fun H' o m e Rr q => ⟨.ref a, pathV_lk m p1, a, o, ks, rfl, e, q _ (itok_items e n (r.lk m))⟩⟩
  | values c =>
    simp only [evi, evI] at ei
    obtain ⟨d, e1, ei⟩ := obd_inv ei
    obtain ⟨kvs, e2, ei⟩ := obd_inv ei
    cases ei
    cases d <;> first
      | (cases e2; done)
      | skip
    cases e2
    obtain ⟨v, p1, p2⟩ := path_rep R e1
    obtain ⟨a, ks, rfl, h1, n, r⟩ := dct_inv p2
    exact ⟨rfl, rfl, a, ks, h1, n, fun H' o m e Rr q => ⟨.ref a, pathV_lk m p1, a, o, ks, rfl, e, q _ (itok_vals e n (r.lk m))⟩⟩
  | _ => cases hl
end
section
variable {K : PySem.W.Frag} {mg : Str → Option Value} {φ φ' : List Addr} {out : Addr → Prop} {ρ ρ' : Env'} {S S' : Sto} {σ σ' : L2.St} {H H' : Hp} {a : Addr} {ks : List (Key × V)} {od : Obj}
theorem Stp.nex (t : Stp φ ρ σ H φ' ρ' σ' H') (e : H a ≠ none) (n : ¬ exc φ out ρ σ a) : ¬ exc φ' out ρ' σ' a := by
  rintro (z | z | z)
  · rcases t.nw a z with z | z | z
    · exact n (.inl z)
    · exact e z
    · exact n (.inr (.inr z))
  · exact n (.inr (.inl z))
  · rcases t.on a z with z | z
    · exact n (.inr (.inr z))
    · exact e z
theorem ROp.unlock {H0 H0' : Hp} {own0 : Addr → Prop} {o : Op} {v : V} (h : ROp K mg φ out ρ S σ H H0' own0 o v) (e : H a = some (.frz od (.dK ks))) (n : ¬ exc φ out ρ σ a) (h0 : ∀ b, H0' b = none → H0 b = none ∧ b ≠ a) (h1 : ∀ b, own0 b → b ≠ a) :
    ROp K mg φ out ρ S σ (upd H a (.dK ks)) H0 own0 o v := by
  cases o with
  | fz d => exact RepV.lk (lk_off e) h
  | sl i => exact h
  | fr d =>
    obtain ⟨b, e1, R2, h2, h3, h4⟩ := h
    have nb : b ≠ a := h4.elim (fun z => (h0 b z).2) (h1 b)
    have n2 : ¬ exc φ (fun b' => out b' ∨ b' = b) ρ σ a := by
      rintro (z | (z | z) | z)
      · exact n (.inl z)
      · exact n (.inr (.inl z))
      · exact nb z.symm
      · exact n (.inr (.inr z))
    exact ⟨b, e1, R2.unlock e n2, h2.lk (lk_off e) (upd_ne nb), h3, h4.imp (fun z => (h0 b z).1) id⟩
theorem lock_none {b : Addr} (h : (upd H a (.frz od (.dK ks))) b = none) : H b = none ∧ b ≠ a := ⟨Classical.byContradiction fun q => upd_kp b q h, fun q => by subst q; rw [upd_same] at h; cases h⟩
theorem Post.unlock {o : Op} {v : V} (p : Post K mg φ out ρ σ (upd H a (.frz od (.dK ks))) o ρ' S' v H' φ') (e : H a = some (.dK ks)) (n : ¬ exc φ out ρ σ a) : H' a = some (.frz od (.dK ks)) ∧ Post K mg φ out ρ σ H o ρ' S' v (upd H' a (.dK ks)) φ' := by
  obtain ⟨e1, t⟩ := p.stp.unlock e (fun z => n (.inl z)) (fun z => n (.inr (.inr z)))
  have n' := p.stp.nex (out := out) (a := a) (by rw [upd_same]; exact fun z => nomatch z) n
  exact ⟨e1, t, p.rel.unlock e1 n', p.val.unlock e1 n' (fun b z => lock_none z) fun b z q => n (.inr (.inr (q ▸ z)))⟩
end
end Sk

/-! SkO: objects: their methods, attributes, their making. -/
namespace Sk
open PySem PySem.Spec PyProof.Rows L2

theorem putFD_rep {K : PySem.W.Frag} {mg : Str → Option Value} {φ : List Addr} {ex : Addr → Prop} {H : Hp} {f : Str} {d : D} {v : V} (h : RepV K mg φ ex H d v) : ∀ {fs : List (Str × D)} {gs : List (Str × V)}, FldsR K mg φ ex H fs gs → FldsR K mg φ ex H (putFD f d fs) (putF f v gs)
  | _, _, .nil => .cons ⟨rfl, h⟩ .nil
  | _, _, .cons (a := x) (b := y) (l₁ := xs) (l₂ := ys) r t => by
    obtain ⟨g, x⟩ := x
    obtain ⟨g', y⟩ := y
    obtain ⟨e, r⟩ := r
    have e : g = g' := e
    subst e
    show FldsR K mg φ ex H (if g = f then (g, d) :: xs else (g, x) :: putFD f d xs) (if g = f then (g, v) :: ys else (g, y) :: putF f v ys)
    by_cases z : g = f
    · rw [if_pos z, if_pos z]
      exact .cons ⟨rfl, h⟩ t
    · rw [if_neg z, if_neg z]
      exact .cons ⟨rfl, r⟩ (putFD_rep h t)
theorem flds_lookup {K : PySem.W.Frag} {mg : Str → Option Value} {φ : List Addr} {ex : Addr → Prop} {H : Hp} {f : Str} : ∀ {fs : List (Str × D)} {gs : List (Str × V)}, FldsR K mg φ ex H fs gs → (∀ d, fs.lookup f = some d → ∃ v, gs.lookup f = some v ∧ RepV K mg φ ex H d v) ∧ (fs.lookup f = none → gs.lookup f = none)
  | _, _, .nil => ⟨fun d e => (by cases e), fun _ => rfl⟩
  | _, _, .cons (a := x) (b := y) (l₁ := xs) (l₂ := ys) r t => by
    obtain ⟨g, x⟩ := x
    obtain ⟨g', y⟩ := y
    obtain ⟨e, r⟩ := r
    have e : g = g' := e
    subst e
    obtain ⟨h1, h2⟩ := flds_lookup t
    rw [List.lookup_cons, List.lookup_cons]
    cases z : (f == g) with
    | true => exact ⟨fun d e => (by cases e; exact ⟨y, rfl, r⟩), fun e => nomatch e⟩
    | false => exact ⟨h1, h2⟩
section
variable {T : Tab} {k : Nat} {X : Cx} {sc : Scope} {φ : List Addr} {out : Addr → Prop} {ρ : Env'} {S : Sto} {σ : L2.St} {H : Hp} {c a b d : CE} {es : List CE}
/-- an object of the store -/
theorem ins_of (R : Rel X.K X.mg φ out ρ S σ H) {n : Nat} {c : Str} {fs : List (Str × D)} {v : V} (h : RepV X.K X.mg φ (exc φ out ρ σ) H (.ref n) v) (e : S[n]? = some (.ins c fs)) :
    ∃ a C dx gs, v = .ref a ∧ φ[n]? = some a ∧ H a = some (.ins C dx gs) ∧ X.mg c = some (.ref C) ∧ FldsR X.K X.mg φ (exc φ out ρ σ) H fs gs := by
  cases h with
  | ref q =>
    obtain ⟨a, e1, C, dx, gs, h1, h2, h3⟩ := R.st n _ e
    rw [q] at e1
    cases e1
    exact ⟨_, C, dx, gs, rfl, q, h1, h2, h3⟩
theorem mg_inj {c : Str} {C C' : Addr} (h : X.mg c = some (.ref C)) (h' : X.mg c = some (.ref C')) : C = C' := by
  rw [h] at h'
  cases h'
  rfl
theorem attr_inv {f : Str} {r : Op × Env' × Sto} (e : ev T k (.attr a f) ρ S = some r) : ∃ n ρ1 S1 c fs s d, ev T k a ρ S = some (.fz (.ref n), ρ1, S1) ∧ S1[n]? = some (.ins c fs) ∧ T.M c (atName f) = some s ∧ fs.lookup f = some d ∧ r = (.fz d, ρ1, S1) := by
  simp only [ev, evE] at e
  obtain ⟨x, ρ1, S1, ea, e⟩ := bnd_inv e
  split at e
  · rename_i n
    split at e
    · rename_i c fs hs
      obtain ⟨s, es, e⟩ := obd_inv e
      obtain ⟨d, ed, e⟩ := obd_inv e
      cases e
      exact ⟨n, ρ1, S1, c, fs, s, d, ea, hs, es, ed, rfl⟩
    · cases e
  · cases e
theorem k_attr {f : Str} (sa : SE T k a) : SE T k (.attr a f) := by
  refine .plain (fun X sc e g h => ?_) fun sc N e h => ?_
  · unfold mE at h
    split at h
    · rename_i x n p
      simp only [Bool.and_eq_true, decide_eq_true_eq] at h
      obtain ⟨⟨rfl, h1⟩, h2⟩ := h
      refine peC (pe_fld (sa.pe X sc x g h2) (recv2_base h1)) fun σ H Q ⟨φ, out, ρ, S, o, ρ', S', R, e, q⟩ => ?_
      obtain ⟨m, ρ1, S1, c, fs, s, d, ea, hs, es, ed, er⟩ := attr_inv e
      cases er
      refine one R ea fun v H1 φ1 p1 => ?_
      obtain ⟨A, C, dx, gs, rfl, _, h3, h4, h5⟩ := ins_of p1.rel p1.val hs
      obtain ⟨C', h6, h7, h8⟩ := g.A c n s es
      cases mg_inj h4 h6
      obtain ⟨w, e1, e2⟩ := (flds_lookup h5).1 d ed
      exact ⟨A, C, dx, gs, w, rfl, h3, h7, h8, e1, q w H1 φ1 (endFz p1.stp p1.rel e2)⟩
    · cases h
  · cases e <;> first
      | rfl
      | cases h
/-! ### methods -/
theorem meth_shape {o : Expr} {m : Str} {apos pos : Pos} {args : List Expr} {env : Env} (hb : attributeBase o m env (eval o env) = eval o env) (hf : (backTo pos (starEach args env)).all (fun x => !x.1) = true) (hn : args.length < 9) (hl : (apos.endLine == pos.line) = true) :
    eval (.Call (.Attribute o m apos) args [] pos) env = (do
      let ov ← eval o env
      standAt apos.atName
      let (f, first) ← holding [ov] (getMethod ov m (do return (← importBound o env).getD true))
      callWith pos f first (backTo pos (starEach args env)) (backToKw pos (keywordEach [] env))) := by
  refine L2.mcall_of hb fun ov => ?_
  have few : methodCallForm (args.length + ([] : List Keyword).length) (backTo pos (starEach args env)) (backToKw pos (keywordEach [] env)) = true := by
    unfold methodCallForm
    have e : keywordEach [] env = [] := rfl
    rw [e]
    show ((backTo pos (starEach args env)).all (fun x => !x.1) && true && decide (args.length + 0 + 0 < 30)) = true
    rw [hf, decide_eq_true (by omega)]
    rfl
  unfold methodCall
  rw [few]
  unfold calleeOf methodCallPos
  simp only [if_true, hl, Bool.not_true, Bool.false_or, pure_bind]
theorem meth_inv {m : Str} {r : Op × Env' × Sto} (e : ev T k (.meth m a es) ρ S = some r) : ∃ n ρ1 S1 c fs f ds ρ2 S2 q, ev T k a ρ S = some (.fz (.ref n), ρ1, S1) ∧ S1[n]? = some (.ins c fs) ∧ fs.lookup m = none ∧ isAt m = false ∧ T.M c m = some f ∧
    evs T k es ρ1 S1 = some (ds, ρ2, S2) ∧ callK T.G T.F T.M k f (.ref n :: ds) S2 = some q ∧ r = (q.1, ρ2, q.2) := by
  simp only [ev, evE] at e
  obtain ⟨x, ρ1, S1, ea, e⟩ := bnd_inv e
  split at e
  · rename_i n
    split at e
    · rename_i c fs hs
      split at e
      · cases e
      · rename_i hz
        rw [Bool.or_eq_true, not_or] at hz
        obtain ⟨f, ef, e⟩ := obd_inv e
        obtain ⟨ds, ρ2, S2, eb, e⟩ := bnd_inv e
        obtain ⟨q, eq, e⟩ := obd_inv e
        cases e
        refine ⟨n, ρ1, S1, c, fs, f, ds, ρ2, S2, q, ea, hs, ?_, by simpa using hz.2, ef, eb, eq, rfl⟩
        cases hl : fs.lookup m with
        | none => rfl
        | some d => rw [hl] at hz; exact absurd rfl hz.1
    · cases e
  · cases e
theorem peEx {X : Cx} {e : Expr} {ι : Type} {t : ι → TE} (h : ∀ i, PE X e (t i)) : PE X e (fun σ H Q => ∃ i, t i σ H Q) := ⟨fun pins s σ H Q I ⟨i, q⟩ => (h i).run pins s σ H Q I q⟩
theorem k_meth {m : Str} (sa : SE T k a) (s : ∀ c ∈ es, SE T k c) : SE T k (.meth m a es) := by
  refine .plain (fun X sc e g h => ?_) fun sc N e h => ?_
  · unfold mE at h
    split at h
    · rename_i x n ap l pos
      simp only [Bool.and_eq_true, decide_eq_true_eq] at h
      obtain ⟨⟨⟨⟨⟨rfl, h1⟩, h2⟩, h3⟩, h4⟩, h5⟩ := h
      -- the class and its method are known when it runs
      let ι := { p : Str × Str // T.M p.1 n = some p.2 ∧ isAt n = false }
      have fact : ∀ i : ι, ∃ C A fd ps, X.mg i.val.1 = some (.ref C) ∧ Cls X.K C ∧ Meth X.K C n A ∧ Binds X.K fd ps [] ∧ FnOk X.prog X.w X.K X.mg X.base CX0 k A fd ps (spF T k i.val.2 X.K X.mg) := fun i => g.M _ _ _ i.property.1 i.property.2
      have main : ∀ (σ : L2.St) (H : Hp) (Q : VK), TEv T k X (.meth n a es) σ H Q → ∃ i : ι, ∀ C, X.mg i.val.1 = some (.ref C) → tMeth C n (spF T k i.val.2 X.K X.mg) [] (fun _ _ _ => False) (TEv T k X a) (TAv T k X es) σ H Q := fun σ H Q ⟨φ, out, ρ, S, o, ρ', S', R, e, q⟩ => by
        obtain ⟨m, ρ1, S1, c, fs, f, ds, ρ2, S2, w, ea, hs, hl, hat, hM, eb, ec, er⟩ := meth_inv e
        cases er
        refine ⟨⟨(c, f), hM, hat⟩, fun C hC => one R ea fun v H1 φ1 p1 => ?_⟩
        obtain ⟨A, C', dx, gs, rfl, hA, h6, h7, h8⟩ := ins_of p1.rel p1.val hs
        cases mg_inj hC h7
        refine ⟨A, dx, gs, rfl, h6, (flds_lookup h8).2 hl, φ1, out, ρ1, S1, ds, ρ', S2, p1.rel, eb, fun vs H2 φ2 t2 R2 hv => ?_⟩
        obtain ⟨R3, hx⟩ := R2.callee
        refine ⟨φ2, _, S2, .ref m :: ds, w.1, w.2, R3, ?_, ec, fun v H' φ' p => q v H' φ' (((R2.called p).trans t2).trans p1.stp)⟩
        rw [List.append_nil]
        exact .cons (.ref (t2.pre _ _ hA)) (hv.mv (.less fun b z => (hx b).mp z))
      cases l with
      | nil =>
        cases es with
        | nil =>
          refine peC (peEx (ι := ι) (t := fun i σ H Q => ∀ C, X.mg i.val.1 = some (.ref C) → tMeth C n (spF T k i.val.2 X.K X.mg) [] (fun _ _ _ => False) (TEv T k X a) tNil σ H Q) fun i => ?_) fun σ H Q q => ?_
          · obtain ⟨C, A, fd, ps, f1, f2, f3, f4, f5⟩ := fact i
            exact peC (pe_meth0 (sa.pe X sc x g h3) f2 f3 f5 g.room f4 .nil pass0 (meth_shape (recv2_base h2) rfl h5 h1)) fun σ H Q q => q C f1
          · obtain ⟨i, q⟩ := main σ H Q q
            refine ⟨i, fun C hC => ?_⟩
            obtain ⟨φ, out, ρ, S, o, ρ', S', R, ea, q⟩ := q C hC
            refine ⟨φ, out, ρ, S, o, ρ', S', R, ea, fun v H' φ' p => ?_⟩
            obtain ⟨A, dx, fs, e1, e2, e3, φ3, out3, ρ3, S3, ds, ρ4, S4, R3, eb, q⟩ := q v H' φ' p
            have e' : some (([] : List D), ρ3, S3) = some (ds, ρ4, S4) := eb
            cases e'
            exact ⟨A, dx, fs, e1, e2, e3, q [] H' φ3 .refl R3 .nil⟩
        | cons c es => cases h4
      | cons y l =>
        cases es with
        | nil => cases h4
        | cons c es =>
          have hs := star_all (env := X.env) (all_inv h4).2.2
          have hs0 := star_all (env := X.env) h4
          refine peC (peEx (ι := ι) (t := fun i σ H Q => ∀ C, X.mg i.val.1 = some (.ref C) → tMeth C n (spF T k i.val.2 X.K X.mg) [] (fun _ _ _ => False) (TEv T k X a) (TAv T k X (c :: es)) σ H Q) fun i => ?_) main
          obtain ⟨C, A, fd, ps, f1, f2, f3, f4, f5⟩ := fact i
          exact peC (pe_meth (sa.pe X sc x g h3) f2 f3 f5 g.room f4 .nil pass0 (pa_of g s h4) (star_plain (all_inv h4).2.1) (back_any hs) (meth_shape (recv2_base h2) (back_all hs0) h5 h1)) fun σ H Q q => q C f1
    · cases h
  · cases e <;> first
      | rfl
      | cases h
/-! ### making -/
theorem new_inv {c : Str} {r : Op × Env' × Sto} (e : ev T k (.new c es) ρ S = some r) : ∃ ds ρ1 S1 q, evs T k es ρ S = some (ds, ρ1, S1) ∧ callK T.G T.F T.M k (newName c) ds S1 = some q ∧ r = (q.1, ρ1, q.2) := by
  simp only [ev, evE] at e
  obtain ⟨ds, ρ1, S1, ea, e⟩ := bnd_inv e
  obtain ⟨q, eq, e⟩ := obd_inv e
  cases e
  exact ⟨ds, ρ1, S1, q, ea, eq, rfl⟩
theorem vaAll_env0 {ds : List D} : vaAll (env0 ds.length ds) = some ds := by
  unfold env0
  rw [Nat.sub_self, List.replicate_zero, List.append_nil]
  induction ds with
  | nil => rfl
  | cons d r ih =>
    show (vaAll (r.map .va)).map (d :: ·) = _
    rw [ih]
    rfl
theorem mk_run {c i : Str} {n j : Nat} {ds : List D} {q : Op × Sto} (hF : T.F (newName c) = some ⟨n, n, [.mk c i]⟩) (e : callK T.G T.F T.M (j + 1) (newName c) ds S = some q) :
    ∃ S2, callK T.G T.F T.M j i (.ref S.length :: ds) (S ++ [.ins c []]) = some (.fz .non, S2) ∧ q = (.fz (.ref S.length), S2) := by
  have e : obd (T.F (newName c)) (fun fn => runF T.G (callK T.G T.F T.M j) T.M fn ds S) = some q := e
  rw [hF] at e
  have e : runF T.G (callK T.G T.F T.M j) T.M ⟨n, n, [.mk c i]⟩ ds S = some q := e
  unfold runF at e
  split at e
  · rename_i hl
    have hl : ds.length = n := hl
    subst hl
    obtain ⟨o, e1, e⟩ := obd_inv e
    simp only [evSs, evS, vaAll_env0, obd_some] at e1
    obtain ⟨o', e2, e1⟩ := obd_inv e1
    obtain ⟨r, e3, e2⟩ := obd_inv e2
    split at e2
    · rename_i hr
      cases e2
      cases e1
      cases e
      exact ⟨r.2, by rw [e3, ← hr], rfl⟩
    · cases e2
  · cases e
/-- a new instance joins the store -/
theorem Rel.made (R : Rel X.K X.mg φ out ρ S σ H) {c : Str} {C x dx : Addr} (hC : X.mg c = some (.ref C)) (hx : H x = none) (hd : H dx = none) (ne : dx ≠ x) :
    Rel X.K X.mg (φ ++ [x]) out ρ (S ++ [.ins c []]) σ (upd (upd H dx (.own x)) x (.ins C dx [])) ∧ Stp φ ρ σ H (φ ++ [x]) ρ σ (upd (upd H dx (.own x)) x (.ins C dx [])) := by
  have keep : ∀ b o, H b = some o → (upd (upd H dx (.own x)) x (.ins C dx [])) b = some o := fun b o e => by
    rw [upd_ne (fun z => by rw [z, hx] at e; cases e), upd_ne (fun z => by rw [z, hd] at e; cases e)]
    exact e
  have hxe : ∀ b, exc (φ ++ [x]) out ρ σ b → exc φ out ρ σ b ∨ b = x := fun b z => by
    rcases z with z | z | z
    · rcases List.mem_append.mp z with z | z
      · exact .inl (.inl z)
      · exact .inr (List.mem_singleton.mp z)
    · exact .inl (.inr (.inl z))
    · exact .inl (.inr (.inr z))
  have pre : ∀ (n : Nat) (b : Addr), φ[n]? = some b → (φ ++ [x])[n]? = some b := fun n b e => by
    rw [List.getElem?_append_left (List.getElem?_eq_some_iff.mp e).1]
    exact e
  have m : Mv φ (φ ++ [x]) (exc φ out ρ σ) (exc (φ ++ [x]) out ρ σ) H (upd (upd H dx (.own x)) x (.ins C dx [])) := ⟨pre, fun b o e _ => keep b o e, fun b z => (hxe b z).imp id fun (z : b = x) => by rw [z]; exact hx⟩
  have nx : ¬ exc φ out ρ σ x := fun z => R.ex_some z hx
  refine ⟨⟨R.len, fun i d e => ?_, fun i d e => ?_, R.owi, fun n o e => ?_, by rw [List.length_append, List.length_append, R.sl]; rfl, ?_, fun b z w => ?_, fun b z => ?_⟩, ⟨pre, fun b z => ?_, fun b o e _ _ => keep b o e, fun b z => .inl z, fun b z => ?_⟩⟩
  · obtain ⟨v, e1, h1⟩ := R.va i d e
    exact ⟨v, e1, h1.mv m⟩
  · obtain ⟨b, e1, h1, h2, h3⟩ := R.ow i d e
    refine ⟨b, e1, h1.mv m fun o q => keep b o q, fun z => ?_, h3⟩
    rcases List.mem_append.mp z with z | z
    · exact h2 z
    · exact nx (List.mem_singleton.mp z ▸ .inr (.inr ⟨i, d, e, e1⟩))
  · by_cases hl : n < S.length
    · rw [List.getElem?_append_left hl] at e
      obtain ⟨b, e1, h1⟩ := R.st n o e
      exact ⟨b, pre n b e1, h1.mv m fun o q => keep b o q⟩
    · have hn : n = S.length := by
        have := (List.getElem?_eq_some_iff.mp e).1
        rw [List.length_append, List.length_singleton] at this
        omega
      subst hn
      rw [List.getElem?_append_right (Nat.le_refl _), Nat.sub_self] at e
      cases e
      refine ⟨x, ?_, C, dx, [], upd_same, hC, .nil⟩
      rw [R.sl, List.getElem?_append_right (Nat.le_refl _), Nat.sub_self]
      rfl
  · rw [List.nodup_append]
    exact ⟨R.nd, (by simp), fun b hb y hy => fun z => nx (by rw [List.mem_singleton.mp hy] at z; exact z ▸ .inl hb)⟩
  · rcases List.mem_append.mp z with z | z
    · exact R.no b z w
    · exact nx (List.mem_singleton.mp z ▸ .inr (.inl w))
  · intro q
    have := R.ot b z
    cases hb : H b with
    | none => exact this hb
    | some o => rw [keep b o hb] at q; cases q
  · rcases List.mem_append.mp z with z | z
    · exact .inl z
    · exact .inr (.inl (List.mem_singleton.mp z ▸ hx))
  · intro q
    cases hb : H b with
    | none => exact z hb
    | some o => rw [keep b o hb] at q; cases q
theorem k_new {c : Str} (s : ∀ c ∈ es, SE T k c) : SE T k (.new c es) := by
  refine .plain (fun X sc e g h => ?_) fun sc N e h => ?_
  · unfold mE at h
    split at h
    · rename_i x p l pos
      simp only [Bool.and_eq_true, decide_eq_true_eq] at h
      obtain ⟨⟨rfl, h1⟩, h2⟩ := h
      obtain ⟨g1, g2, g3, g4⟩ := g.gl h1
      have never : (T.F (newName x) = none ∨ k = 0) → ∀ (σ : L2.St) (H : Hp) (Q : VK), ¬ TEv T k X (.new x es) σ H Q := fun hF σ H Q ⟨φ, out, ρ, S, o, ρ', S', R, e, q⟩ => by
        obtain ⟨ds, ρ1, S1, q, ea, eq, er⟩ := new_inv e
        cases k with
        | zero => cases eq
        | succ k =>
          rcases hF with hF | hF
          · have er' : obd (T.F (newName x)) (fun fn => runF T.G (callK T.G T.F T.M k) T.M fn ds S1) = some q := eq
            rw [hF] at er'
            cases er'
          · cases hF
      cases hF : T.F (newName x) with
      | none => exact ⟨fun pins s σ H Q I q => (never (.inl hF) σ H Q q).elim⟩
      | some fn =>
      cases k with
      | zero => exact ⟨fun pins s σ H Q I q => (never (.inr rfl) σ H Q q).elim⟩
      | succ j =>
        obtain ⟨C, i, A, fd, ps, n, m, M, rfl, hb, F⟩ := g.N x fn hF
        have F := F j rfl
        have main : ∀ (σ : L2.St) (H : Hp) (Q : VK), TEv T (j + 1) X (.new x es) σ H Q → tMake C (spF T j i X.K X.mg) [] (fun _ _ _ => False) (TAv T (j + 1) X es) σ H Q := fun σ H Q ⟨φ, out, ρ, S, o, ρ', S', R, e, q⟩ => by
          obtain ⟨ds, ρ1, S1, w, ea, ew, er⟩ := new_inv e
          cases er
          obtain ⟨S2, e2, rfl⟩ := mk_run hF ew
          refine ⟨φ, out, ρ, S, ds, _, S1, R, ea, fun vs H1 φ1 t1 R1 hv z dx hz hd ne => ?_⟩
          obtain ⟨R2, t2⟩ := R1.made m hz hd ne
          obtain ⟨R3, hx⟩ := R2.callee
          have hpz : (φ1 ++ [z])[S1.length]? = some z := by
            rw [R1.sl, List.getElem?_append_right (Nat.le_refl _), Nat.sub_self]
            rfl
          refine ⟨φ1 ++ [z], _, S1 ++ [.ins x []], .ref S1.length :: ds, .fz .non, S2, R3, ?_, e2, fun v H' φ' p => ?_⟩
          · rw [List.append_nil]
            exact .cons (.ref hpz) ((hv.mv (t2.mv (out' := out) R1 fun _ z => .inl z)).mv (.less fun b z => (hx b).mp z))
          · have p1 := (R2.called p).trans (t1.trans t2)
            exact ⟨RepV.toNon p1.val, q (.ref z) H' φ' ⟨p1.stp, p1.rel, .ref (p.stp.pre _ _ hpz)⟩⟩
        cases l with
        | nil =>
          cases es with
          | nil =>
            refine peC (pe_make0 M F g.room g1 m hb .nil pass0 g2) fun σ H Q q => ?_
            obtain ⟨φ, out, ρ, S, ds, ρ', S', R, ea, q⟩ := main σ H Q q
            have e' : some (([] : List D), ρ, S) = some (ds, ρ', S') := ea
            cases e'
            exact q [] H φ .refl R .nil
          | cons c es => cases h2
        | cons y l =>
          cases es with
          | nil => cases h2
          | cons c es =>
            have hs := star_all (env := X.env) (all_inv h2).2.2
            exact peC (pe_make M F g.room g1 m hb .nil pass0 (pa_of g s h2) g2 (star_plain (all_inv h2).2.1) (back_any hs)) main
    · cases h
  · cases e <;> first
      | rfl
      | cases h
end
end Sk

/-! Sk13: all expressions. -/
namespace Sk
open PySem PySem.Spec PyProof.Rows L2

section
variable {T : Tab} {k : Nat} {c a b d : CE} {es : List CE}
theorem pts_of {X : Cx} {sc : Scope} {cs : List CE} {ifs : List Expr} (g : Good T k X sc) (s : ∀ c ∈ cs, SE T k c) (h : mCs sc X.N cs ifs = true) : PTs X ifs (TCv T k X cs) := by
  match cs, ifs, s, h with
  | [], [], _, _ =>
    refine ⟨fun pins s σ H Q I ⟨φ, out, ρ, S, b, ρ', S', R, e, q⟩ => pts_nil.run pins s σ H Q I ?_⟩
    have e' : some (true, ρ, S) = some (b, ρ', S') := e
    cases e'
    exact q H φ .refl R
  | [c], [x], s, h =>
    refine ⟨fun pins s' σ H Q I ⟨φ, out, ρ, S, b, ρ', S', R, e, q⟩ => (pts_one ((s c List.mem_cons_self).pt X sc x g h)).run pins s' σ H Q I ?_⟩
    simp only [evc, evC] at e
    obtain ⟨x, ρ1, S1, ea, e⟩ := bnd_inv e
    split at e
    · cases e
      exact ⟨φ, out, ρ, S, _, _, _, R, ea, q⟩
    · cases e
      exact ⟨φ, out, ρ, S, _, _, _, R, ea, q⟩
    · cases e
  | [], _ :: _, _, h => cases h
  | [_], [], _, h => cases h
  | [_], _ :: _ :: _, _, h => cases h
  | _ :: _ :: _, _, _, h => cases h
/-- a new object of the store -/
theorem Rel.alloc {K : PySem.W.Frag} {mg : Str → Option Value} {φ : List Addr} {out : Addr → Prop} {ρ : Env'} {S : Sto} {σ : L2.St} {H : Hp} {a : Addr} {d : D} (R : Rel K mg φ (fun b => out b ∨ b = a) ρ S σ H) (h : ObjD K mg φ (exc φ (fun b => out b ∨ b = a) ρ σ) H a d) (ho : ¬ out a) :
    Rel K mg (φ ++ [a]) out ρ (S ++ [.da d]) σ H := by
  have hx : ∀ b, exc (φ ++ [a]) out ρ σ b → exc φ (fun b => out b ∨ b = a) ρ σ b := fun b z => by
    rcases z with z | z | z
    · rcases List.mem_append.mp z with z | z
      · exact .inl z
      · exact .inr (.inl (.inr (List.mem_singleton.mp z)))
    · exact .inr (.inl (.inl z))
    · exact .inr (.inr z)
  have pre : ∀ (n : Nat) (b : Addr), φ[n]? = some b → (φ ++ [a])[n]? = some b := fun n b e => by
    rw [List.getElem?_append_left (List.getElem?_eq_some_iff.mp e).1]
    exact e
  have m : Mv φ (φ ++ [a]) (exc φ (fun b => out b ∨ b = a) ρ σ) (exc (φ ++ [a]) out ρ σ) H H := ⟨pre, fun _ _ e _ => e, fun b z => .inl (hx b z)⟩
  have na : a ∉ φ := fun z => R.no a z (.inr rfl)
  refine ⟨R.len, fun i d e => ?_, fun i d e => ?_, R.owi, fun n o e => ?_, by rw [List.length_append, List.length_append, R.sl]; rfl, ?_, fun b z w => ?_, fun b z => R.ot b (.inl z)⟩
  · obtain ⟨v, e1, h1⟩ := R.va i d e
    exact ⟨v, e1, h1.mv m⟩
  · obtain ⟨b, e1, h1, h2, h3⟩ := R.ow i d e
    refine ⟨b, e1, h1.mv m fun _ q => q, fun z => ?_, fun z => h3 (.inl z)⟩
    rcases List.mem_append.mp z with z | z
    · exact h2 z
    · exact h3 (.inr (List.mem_singleton.mp z))
  · by_cases hl : n < S.length
    · rw [List.getElem?_append_left hl] at e
      obtain ⟨b, e1, h1⟩ := R.st n o e
      exact ⟨b, pre n b e1, h1.mv m fun _ q => q⟩
    · have hn : n = S.length := by
        have := (List.getElem?_eq_some_iff.mp e).1
        rw [List.length_append, List.length_singleton] at this
        omega
      subst hn
      rw [List.getElem?_append_right (Nat.le_refl _), Nat.sub_self] at e
      cases e
      refine ⟨a, ?_, h.mv m fun _ q => q⟩
      rw [R.sl, List.getElem?_append_right (Nat.le_refl _), Nat.sub_self]
      rfl
  · rw [List.nodup_append]
    exact ⟨R.nd, (by simp), fun x hx y hy => fun z => na (by rw [List.mem_singleton.mp hy] at z; exact z ▸ hx)⟩
  · rcases List.mem_append.mp z with z | z
    · exact R.no b z (.inl w)
    · rw [List.mem_singleton.mp z] at w
      exact ho w
theorem al_conv (X : Cx) (σ : L2.St) (H : Hp) (Q : VK) : TEv T k X (.al a) σ H Q → TEv T k X a σ H Q := fun ⟨φ, out, ρ, S, o, ρ', S', R, e, q⟩ => by
  simp only [ev, evE] at e
  obtain ⟨x, ρ1, S1, ea, e⟩ := bnd_inv e
  split at e
  · cases e
    refine one R ea fun v H1 φ1 p1 => ?_
    obtain ⟨b, rfl, h1, h2, h3, h4⟩ := p1.val
    have R2 := h1.alloc h2 h3
    refine q _ H1 (φ1 ++ [b]) ⟨⟨fun n c e => ?_, fun c z => ?_, p1.stp.fr, p1.stp.on, p1.stp.kp⟩, R2, .ref ?_⟩
    · have := p1.stp.pre n c e
      rw [List.getElem?_append_left (List.getElem?_eq_some_iff.mp this).1]
      exact this
    · rcases List.mem_append.mp z with z | z
      · exact p1.stp.nw c z
      · rw [List.mem_singleton.mp z]
        exact .inr h4
    · rw [h1.sl, List.getElem?_append_right (Nat.le_refl _), Nat.sub_self]
      rfl
  · cases e
theorem k_al (sa : SE T k a) : SE T k (.al a) := by
  refine ⟨fun X sc e g h => peC (sa.pe X sc e g h) (al_conv X), fun X sc e g h => ?_, fun X sc op vs p g h => ?_⟩
  all_goals
    first
      | (refine ptC (sa.pt X sc e g h) fun σ H Q ⟨φ, out, ρ, S, b, ρ', S', R, e, q⟩ => ?_
         exfalso
         simp only [ev, evE] at e
         obtain ⟨x, ρ1, S1, ea, e⟩ := bnd_inv e
         split at e <;> cases e)
      | (refine pwC (sa.pw X sc op vs p g h) fun σ H Q ⟨φ, out, ρ, S, b, ρ', S', R, e, q⟩ => ?_
         exfalso
         simp only [ev, evE] at e
         obtain ⟨x, ρ1, S1, ea, e⟩ := bnd_inv e
         split at e <;> cases e)
theorem k_lrev (sa : SE T k a) : SE T k (.lrev a) := by
  refine .plain (fun X sc e g h => ?_) fun sc N e h => ?_
  · unfold mE at h
    split at h
    · rename_i x p y p2 z pos2 pos
      simp only [Bool.and_eq_true, decide_eq_true_eq] at h
      obtain ⟨⟨⟨⟨⟨rfl, rfl⟩, h1⟩, h2⟩, h3⟩, h4⟩ := h
      obtain ⟨g1, _⟩ := g.gl h1
      obtain ⟨g2, _⟩ := g.gl h2
      refine peC (pe_lstRev g.calm g1 (g.blt _ (by decide)) g2 (g.blt _ (by decide)) (sa.pe X sc z g h3) (star_plain h4)) fun σ H Q ⟨φ, out, ρ, S, o, ρ', S', R, e, q⟩ => ?_
      simp only [ev, evE] at e
      obtain ⟨x, ρ1, S1, ea, e⟩ := bnd_inv e
      obtain ⟨dx, ex, e⟩ := obd_inv e
      split at e
      · cases e
        refine one R ea fun v H1 φ1 p1 => ?_
        obtain ⟨b, vs, rfl, hq, r1⟩ := look_ok p1.rel (p1.val.op p1.rel) ex
        exact ⟨b, vs, rfl, hq, fun p hp => q _ _ _ (endLst p1.stp p1.rel r1.rev hp)⟩
      · cases e
    · cases h
  · cases e <;> first
      | rfl
      | cases h
theorem ownOf_ix (N : List Str) (t : Tg) : (ownOf N t).map (·.2) = t.ixs := by
  unfold ownOf
  rw [List.map_map]
  exact List.map_id' t.ixs
/-- the block's reading of a comprehension -/
theorem lc_conv {X : Cx} {elt : CE} {tg : Tg} {it : It'} {cs : List CE} {σ : L2.St} {H : Hp} {Q : VK} (h : TEv T k X (.lc elt tg it cs) σ H Q) : tLc (TIv T k X it) (gT X.K tg) (TCv T k X cs) (TEv T k X elt) ((ownOf X.N tg).map (·.2)) σ H Q := by
  obtain ⟨φ, out, ρ, S, o, ρ', S', R, e, q⟩ := h
  simp only [ev, evE] at e
  obtain ⟨ds, ρ1, S1, ei, e⟩ := bnd_inv e
  split at e
  · rename_i no
    obtain ⟨r, ρ2, S2, el, e⟩ := bnd_inv e
    cases e
    rw [ownOf_ix]
    exact lc_sound R ei no el q
  · cases e
/-- .. over a dict, locked or locked before -/
theorem lcL_conv {X : Cx} {elt : CE} {tg : Tg} {it : It'} {cs : List CE} {σ : L2.St} {H : Hp} {Q : VK} (hl : isLk it = true) (h : TEv T k X (.lc elt tg it cs) σ H Q) :
    tLockE (tLc (lkRd it (pTE X.K (lkPath it))) (gT X.K tg) (TCv T k X cs) (TEv T k X elt) ((ownOf X.N tg).map (·.2))) σ H Q ∨ tLc (lkRd it (pTE X.K (lkPath it))) (gT X.K tg) (TCv T k X cs) (TEv T k X elt) ((ownOf X.N tg).map (·.2)) σ H Q := by
  obtain ⟨φ, out, ρ, S, o, ρ', S', R, e, q⟩ := h
  simp only [ev, evE] at e
  obtain ⟨ds, ρ1, S1, ei, e⟩ := bnd_inv e
  split at e
  · rename_i no
    obtain ⟨r, ρ2, S2, el, e⟩ := bnd_inv e
    cases e
    rw [ownOf_ix]
    obtain ⟨rfl, rfl, a, ks, hr, n, go⟩ := lk_goes hl R ei
    rcases hr with hr | ⟨o, hr⟩
    · refine .inl ⟨a, .dK ks, hr, trivial, fun od => go _ od (lk_on hr) upd_same _ fun J ok D hD => ?_⟩
      exact lc_walk (Q := fun v H' => H' a = some (.frz od (.dK ks)) ∧ Q v (upd H' a (.dK ks))) no el (fun v H' φ' p => by
        obtain ⟨e1, p1⟩ := p.unlock hr n
        exact ⟨e1, q v _ φ' p1⟩) .refl (R.lock hr n) ok hD
    · refine .inr (go _ o ⟨fun _ _ _ z => z⟩ hr _ fun J ok D hD => ?_)
      exact lc_walk no el q .refl R ok hD
  · cases e
theorem peOr {X : Cx} {e : Expr} {t1 t2 : TE} (h1 : PE X e t1) (h2 : PE X e t2) : PE X e (fun σ H Q => t1 σ H Q ∨ t2 σ H Q) := ⟨fun pins s σ H Q I q => q.elim (h1.run pins s σ H Q I) (h2.run pins s σ H Q I)⟩
theorem k_lc {elt : CE} {tg : Tg} {it : It'} {cs : List CE} (se : SE T k elt) (si : SI T k it) (sc' : ∀ c ∈ cs, SE T k c) : SE T k (.lc elt tg it cs) := by
  refine .plain (fun X sc e g h => ?_) fun sc N e h => ?_
  · unfold mE at h
    split at h
    · rename_i x t i ifs scope pos
      simp only [Bool.and_eq_true, decide_eq_true_eq] at h
      obtain ⟨⟨⟨⟨⟨⟨h1, h2⟩, h3⟩, h4⟩, h5⟩, h6⟩, h7⟩ := h
      have mk : ∀ wi : TI, PI X t i wi → (∀ x, foldedSetIterable i X.env x = pure x) → PE X (.ListComp x [⟨t, i, ifs, 0⟩] scope pos) (tLc wi (gT X.K tg) (TCv T k X cs) (TEv T k X elt) ((ownOf X.N tg).map (·.2))) := fun wi p1 p2 =>
        pe_lc (g := gT X.K tg) (tt := TCv T k X cs) (te := TEv T k X elt) g.calm g.nd p1 (g.blkOk h4) (fun s H C cl fp => pg_tg (g.blk s H C cl fp) h2 h3) (fun s H C cl fp => pts_of (g.blk s H C cl fp) sc' h6) (fun s H C cl fp => se.pe _ _ _ (g.blk s H C cl fp) h5) p2
      cases hl : isLk it with
      | false =>
        obtain ⟨p1, p2⟩ := si.pi X sc i t g hl h1
        exact peC (mk _ p1 p2) fun σ H Q q => lc_conv q
      | true =>
        obtain ⟨p1, p2⟩ := lk_pi g hl h1
        exact peC (peOr (pe_lock (mk _ p1 p2)) (mk _ p1 p2)) fun σ H Q q => lcL_conv hl q
    · cases h
  · cases e <;> first
      | rfl
      | cases h
/-! ### walks -/
theorem i_seq (sa : SE T k a) : SI T k (.seq a) := by
  refine ⟨fun X sc e t g _ h => ?_⟩
  have h' : (mE sc X.N a e && plainE e && noSet e) = true := h
  simp only [Bool.and_eq_true] at h'
  obtain ⟨⟨h1, h2⟩, h3⟩ := h'
  refine ⟨⟨fun pins s σ H Q I ⟨φ, out, ρ, S, ds, ρ', S', R, ei, q⟩ => ?_⟩, fun x => plain_fold h3⟩
  have pa := sa.pe X sc e g h1
  simp only [evi, evI] at ei
  obtain ⟨x, ρ1, S1, ea, ei⟩ := bnd_inv ei
  obtain ⟨d, ed, ei⟩ := obd_inv ei
  obtain ⟨ds', es', ei⟩ := obd_inv ei
  cases ei
  cases d with
  | tup ds =>
    cases es'
    refine (pi_tup pa).run pins s σ H Q I (one R ea fun v H1 φ1 p1 => ?_)
    obtain ⟨p, vs, rfl, h1, r1⟩ := tup_inv (ROp.toV p1.rel p1.val ed)
    exact ⟨p, rfl, ⟨vs, h1.sq⟩, q _ H1 φ1 p1.stp p1.rel (itok_tup h1 r1)⟩
  | lst ds =>
    cases es'
    refine (pi_list pa).run pins s σ H Q I (one R ea fun v H1 φ1 p1 => ?_)
    have hv := ROp.toV p1.rel p1.val ed
    cases hv with
    | lst h1 r1 => exact ⟨_, rfl, ⟨_, h1.sq⟩, q _ H1 φ1 p1.stp p1.rel (itok_list h1 r1)⟩
  | str z =>
    cases es'
    refine (pi_str pa).run pins s σ H Q I (one R ea fun v H1 φ1 p1 => ?_)
    exact ⟨z, RepV.toStr (ROp.toV p1.rel p1.val ed), q _ H1 φ1 p1.stp p1.rel itok_str⟩
  | _ => cases es'
theorem rng_inv {i j : Int} {ds : List D} (e : rngD i j = some ds) : smallI i ∧ smallI j ∧ ds = (List.range (j - i).toNat).map fun (k : Nat) => D.int (i + k) := by
  unfold rngD at e
  split at e
  · rename_i h
    exact ⟨h.1, h.2, (Option.some.inj e).symm⟩
  · cases e
theorem i_rng (sa : SE T k a) : SI T k (.rng a) := by
  refine ⟨fun X sc e t g _ h => ?_⟩
  unfold mI at h
  split at h
  · rename_i x p y pos
    simp only [Bool.and_eq_true, decide_eq_true_eq] at h
    obtain ⟨⟨⟨rfl, h1⟩, h2⟩, h3⟩ := h
    obtain ⟨g1, g2, g3, g4⟩ := g.gl h1
    refine ⟨piC (pi_range1 g1 (g.blt _ (by decide)) (pa1 (sa.pe X sc y g h2) h3) (star_plain h3)) fun σ H Q ⟨φ, out, ρ, S, ds, ρ', S', R, ei, q⟩ => ?_, fun x => rfl⟩
    simp only [evi, evI] at ei
    obtain ⟨x, ρ1, S1, ea, ei⟩ := bnd_inv ei
    split at ei
    · rename_i n
      obtain ⟨ds', er, ei⟩ := obd_inv ei
      cases ei
      obtain ⟨r1, r2, rfl⟩ := rng_inv er
      refine one R ea fun v H1 φ1 p1 => ⟨n, congrArg (fun z => [z]) (RepV.toInt p1.val), r2.1, r2.2, q _ H1 φ1 p1.stp p1.rel ?_⟩
      rw [Int.sub_zero]
      exact itok_rng
    · cases ei
  · cases h
theorem i_rng2 (sa : SE T k a) (sb : SE T k b) : SI T k (.rng2 a b) := by
  refine ⟨fun X sc e t g _ h => ?_⟩
  unfold mI at h
  split at h
  · rename_i x p y z pos
    simp only [Bool.and_eq_true, decide_eq_true_eq] at h
    obtain ⟨⟨⟨⟨⟨rfl, h1⟩, h2⟩, h3⟩, h4⟩, h5⟩ := h
    obtain ⟨g1, g2, g3, g4⟩ := g.gl h1
    have hs2 : starEach [z] X.env = [(false, eval z X.env)] := star_plain h5
    refine ⟨piC (pi_range2 g1 (g.blt _ (by decide)) (pa_cons (sa.pe X sc y g h2) (pa1 (sb.pe X sc z g h4) h5) (star_plain h3)) (by rw [star_plain h3, hs2]) hs2) fun σ H Q ⟨φ, out, ρ, S, ds, ρ', S', R, ei, q⟩ => ?_, fun x => rfl⟩
    simp only [evi, evI] at ei
    obtain ⟨x, ρ1, S1, ea, ei⟩ := bnd_inv ei
    obtain ⟨y, ρ2, S2, eb, ei⟩ := bnd_inv ei
    split at ei
    · obtain ⟨ds', er, ei⟩ := obd_inv ei
      cases ei
      obtain ⟨r1, r2, rfl⟩ := rng_inv er
      exact two R ea eb fun v u H2 φ2 t2 R2 hv hu => ⟨_, _, by rw [RepV.toInt hv, RepV.toInt hu], ⟨r1.1, r1.2, r2.1, r2.2⟩, q _ H2 φ2 t2 R2 itok_rng⟩
    · cases ei
  · cases h
theorem i_enu (sa : SE T k a) : SI T k (.enu a) := by
  refine ⟨fun X sc e t g _ h => ?_⟩
  unfold mI at h
  split at h
  · rename_i x p y pos
    simp only [Bool.and_eq_true, decide_eq_true_eq] at h
    obtain ⟨⟨⟨⟨rfl, h1⟩, h2⟩, h3⟩, h4⟩ := h
    obtain ⟨g1, g2, g3, g4⟩ := g.gl h1
    cases t <;> first
      | (cases h4; done)
      | skip
    refine ⟨piC (pi_enum g1 (g.blt _ (by decide)) (pa1 (sa.pe X sc y g h2) h3) (star_plain h3)) fun σ H Q ⟨φ, out, ρ, S, ds, ρ', S', R, ei, q⟩ => ?_, fun x => rfl⟩
    simp only [evi, evI] at ei
    obtain ⟨x, ρ1, S1, ea, ei⟩ := bnd_inv ei
    obtain ⟨d, ed, ei⟩ := obd_inv ei
    split at ei
    · cases ei
      refine one R ea fun v H1 φ1 p1 => ?_
      have hv := ROp.toV p1.rel p1.val ed
      cases hv with
      | lst h1 r1 => exact ⟨_, _, rfl, h1.sq, q _ H1 φ1 p1.stp p1.rel (itok_enum h1 r1)⟩
    · cases ei
  · cases h
theorem i_zip (sa : SE T k a) (sb : SE T k b) : SI T k (.zip a b) := by
  refine ⟨fun X sc e t g _ h => ?_⟩
  unfold mI at h
  split at h
  · rename_i x p y z pos
    simp only [Bool.and_eq_true, decide_eq_true_eq] at h
    obtain ⟨⟨⟨⟨⟨⟨rfl, h1⟩, h2⟩, h3⟩, h4⟩, h5⟩, h6⟩ := h
    obtain ⟨g1, g2, g3, g4⟩ := g.gl h1
    cases t <;> first
      | (cases h6; done)
      | skip
    have hs2 : starEach [z] X.env = [(false, eval z X.env)] := star_plain h5
    refine ⟨piC (RZ.pi_zipA g1 (g.blt _ (by decide)) (pa_cons (sa.pe X sc y g h2) (pa1 (sb.pe X sc z g h4) h5) (star_plain h3)) (by rw [star_plain h3]) (by rw [hs2]; rfl)) fun σ H Q ⟨φ, out, ρ, S, ds, ρ', S', R, ei, q⟩ => ?_, fun x => rfl⟩
    simp only [evi, evI] at ei
    obtain ⟨x, ρ1, S1, ea, ei⟩ := bnd_inv ei
    obtain ⟨y, ρ2, S2, eb, ei⟩ := bnd_inv ei
    obtain ⟨d, ed, ei⟩ := obd_inv ei
    obtain ⟨e, ee, ei⟩ := obd_inv ei
    split at ei
    · cases ei
      refine two R ea eb fun v u H2 φ2 t2 R2 hv hu => ?_
      have hv := hv.toV ed
      have hu := hu.toV ee
      cases hv with
      | lst h1 r1 =>
      cases hu with
      | lst h2 r2 => exact ⟨_, _, _, _, rfl, .inl ⟨h1.sq, h2.sq, q _ H2 φ2 t2 R2 (itok_zip h1 r1 h2 r2)⟩⟩
    · cases ei
      refine two R ea eb fun v u H2 φ2 t2 R2 hv hu => ?_
      obtain ⟨_, _, rfl, h1, r1⟩ := tup_inv (hv.toV ed)
      obtain ⟨_, _, rfl, h2, r2⟩ := tup_inv (hu.toV ee)
      exact ⟨_, _, _, _, rfl, .inr ⟨h1.sq, h2.sq, q _ H2 φ2 t2 R2 (itok_zipT h1 r1 h2 r2)⟩⟩
    · cases ei
  · cases h
theorem i_revd (sa : SE T k a) : SI T k (.revd a) := by
  refine ⟨fun X sc e t g _ h => ?_⟩
  unfold mI at h
  split at h
  · rename_i x p y pos
    simp only [Bool.and_eq_true, decide_eq_true_eq] at h
    obtain ⟨⟨⟨rfl, h1⟩, h2⟩, h3⟩ := h
    obtain ⟨g1, g2, g3, g4⟩ := g.gl h1
    refine ⟨piC (pi_reversed g1 (g.blt _ (by decide)) (pa1 (sa.pe X sc y g h2) h3) (star_plain h3)) fun σ H Q ⟨φ, out, ρ, S, ds, ρ', S', R, ei, q⟩ => ?_, fun x => rfl⟩
    simp only [evi, evI] at ei
    obtain ⟨x, ρ1, S1, ea, ei⟩ := bnd_inv ei
    obtain ⟨d, ed, ei⟩ := obd_inv ei
    split at ei
    · cases ei
      refine one R ea fun v H1 φ1 p1 => ?_
      have hv := ROp.toV p1.rel p1.val ed
      cases hv with
      | lst h1 r1 => exact ⟨_, _, rfl, h1.sq, q _ H1 φ1 p1.stp p1.rel (itok_rev h1 r1)⟩
    · cases ei
  · cases h
end
section
variable {T : Tab} {k : Nat}
theorem k_false {c : CE} (h : ∀ sc N e, mE sc N c e = false) : SE T k c :=
  ⟨fun X sc e g m => absurd ((h sc X.N e).symm.trans m) Bool.false_ne_true, fun X sc e g m => absurd ((h sc X.N e).symm.trans m) Bool.false_ne_true, fun X sc op vs p g m => absurd ((h sc X.N _).symm.trans m) Bool.false_ne_true⟩
theorem i_lk {c : It'} (h : isLk c = true) : SI T k c := ⟨fun X sc e t g m => absurd (h.symm.trans m) (Ne.symm Bool.false_ne_true)⟩
variable (T : Tab) (k : Nat)
mutual
theorem sE : ∀ c : CE, SE T k c
  | .var _ => k_var
  | .rd _ => k_rd
  | .mv _ => k_mv
  | .non => k_non
  | .bl _ => k_bl
  | .int _ => k_int
  | .str _ => k_str
  | .glo _ => k_glo
  | .tup es => k_tup (sL es)
  | .lst es => k_lst (sL es)
  | .dis es => k_dis (sL es)
  | .bop _ a b => k_bop (sE a) (sE b)
  | .neg a => k_neg (sE a)
  | .no a => k_no (sE a)
  | .cmp _ a b => k_cmp (sE a) (sE b)
  | .chn _ _ a b c => k_chn (sE a) (sE b) (sE c)
  | .and a b => k_and (sE a) (sE b)
  | .orr a b => k_orr (sE a) (sE b)
  | .ite c a b => k_ite (sE c) (sE a) (sE b)
  | .sub a i => k_sub (sE a) (sE i)
  | .slc a lo hi => k_slc (sE a) (sO lo) (sO hi)
  | .rev a => k_rev (sE a)
  | .bf _ a => k_bf (sE a)
  | .bf2 _ a b => k_bf2 (sE a) (sE b)
  | .mt _ o es => k_mt (sE o) (sL es)
  | .call _ es => k_call (sL es)
  | .meth _ o es => k_meth (sE o) (sL es)
  | .new _ es => k_new (sL es)
  | .attr o _ => k_attr (sE o)
  | .al e => k_al (sE e)
  | .lrev e => k_lrev (sE e)
  | .lc elt _ it cs => k_lc (sE elt) (sI it) (sL cs)
theorem sI : ∀ c : It', SI T k c
  | .seq a => i_seq (sE a)
  | .rng a => i_rng (sE a)
  | .rng2 a b => i_rng2 (sE a) (sE b)
  | .enu a => i_enu (sE a)
  | .zip a b => i_zip (sE a) (sE b)
  | .keys _ => i_lk rfl
  | .items _ => i_lk rfl
  | .values _ => i_lk rfl
  | .revd a => i_revd (sE a)
theorem sL : ∀ (es : List CE), ∀ c ∈ es, SE T k c
  | [], _, h => nomatch h
  | e :: es, c, h => (List.mem_cons.mp h).elim (fun z => z ▸ sE e) (fun z => sL es c z)
theorem sO : ∀ (o : Option CE), ∀ c, o = some c → SE T k c
  | none, _, h => nomatch h
  | some e, c, h => Option.some.inj h ▸ sE e
end
end
end Sk

/-! Sk14: statements. -/
namespace Sk
open PySem PySem.Spec PyProof.Rows L2

theorem psC {X : Cx} {st : Stmt} {t t' : TS} (h : PS X st t) (c : ∀ D σ H, t' D σ H → t D σ H) : PS X st t' := ⟨fun pins s σ H D I q => h.run pins s σ H D I (c D σ H q)⟩
theorem pssC {X : Cx} {st : List Stmt} {t t' : TS} (h : PSs X st t) (c : ∀ D σ H, t' D σ H → t D σ H) : PSs X st t' := ⟨fun pins s σ H D I q => h.run pins s σ H D I (c D σ H q)⟩

/-! ### the ends -/
structure PostR (K : PySem.W.Frag) (mg : Str → Option Value) (φ : List Addr) (out : Addr → Prop) (ρ : Env') (σ : L2.St) (H : Hp) (x : Op) (S' : Sto) (v : V) (H' : Hp) (φ' : List Addr) : Prop where
  stp : Stp φ ρ σ H φ' [] [] H'
  rel : Rel K mg φ' out [] S' [] H'
  val : ROp K mg φ' out [] S' [] H' H (ownA ρ σ) x v
def EndO (K : PySem.W.Frag) (mg : Str → Option Value) (φ : List Addr) (out : Addr → Prop) (ρ : Env') (σ : L2.St) (H : Hp) (D : Ends) : Out → Prop
  | .nx ρ' S' => ∀ σ' H' φ', Stp φ ρ σ H φ' ρ' σ' H' → Rel K mg φ' out ρ' S' σ' H' → D.nx σ' H'
  | .bk ρ' S' => ∀ σ' H' φ', Stp φ ρ σ H φ' ρ' σ' H' → Rel K mg φ' out ρ' S' σ' H' → D.bk σ' H'
  | .ct ρ' S' => ∀ σ' H' φ', Stp φ ρ σ H φ' ρ' σ' H' → Rel K mg φ' out ρ' S' σ' H' → D.ct σ' H'
  | .rt x S' => ∀ v H' φ', PostR K mg φ out ρ σ H x S' v H' φ' → D.rt v H'
section
variable {K : PySem.W.Frag} {mg : Str → Option Value} {φ φ1 φ' : List Addr} {out : Addr → Prop} {ρ ρ1 ρ' : Env'} {S S' : Sto} {σ σ1 : L2.St} {H H1 H' : Hp} {En : Ends}
theorem PostR.trans {x : Op} {v : V} (t : Stp φ ρ σ H φ1 ρ1 σ1 H1) (p : PostR K mg φ1 out ρ1 σ1 H1 x S' v H' φ') : PostR K mg φ out ρ σ H x S' v H' φ' := by
  refine ⟨t.trans p.stp, p.rel, ?_⟩
  have h := p.val
  cases x with
  | fz d => exact h
  | sl i => exact h
  | fr d =>
    obtain ⟨a, e, h1, h2, h3, h4⟩ := h
    refine ⟨a, e, h1, h2, h3, ?_⟩
    rcases h4 with h4 | h4
    · exact .inl (Classical.byContradiction fun z => t.kp a z h4)
    · exact (t.on a h4).elim .inr .inl
theorem EndO.step {o : Out} (t : Stp φ ρ σ H φ1 ρ1 σ1 H1) (h : EndO K mg φ out ρ σ H En o) : EndO K mg φ1 out ρ1 σ1 H1 En o := by
  cases o with
  | nx ρ' S' => exact fun σ' H' φ' t' R => h σ' H' φ' (t.trans t') R
  | bk ρ' S' => exact fun σ' H' φ' t' R => h σ' H' φ' (t.trans t') R
  | ct ρ' S' => exact fun σ' H' φ' t' R => h σ' H' φ' (t.trans t') R
  | rt x S' => exact fun v H' φ' p => h v H' φ' (p.trans t)
variable {a : Addr} {ks : List (Key × V)} {od : Obj}
theorem PostR.unlock {o : Op} {v : V} (p : PostR K mg φ out ρ σ (upd H a (.frz od (.dK ks))) o S' v H' φ') (e : H a = some (.dK ks)) (n : ¬ exc φ out ρ σ a) : H' a = some (.frz od (.dK ks)) ∧ PostR K mg φ out ρ σ H o S' v (upd H' a (.dK ks)) φ' := by
  obtain ⟨e1, t⟩ := p.stp.unlock e (fun z => n (.inl z)) (fun z => n (.inr (.inr z)))
  have n' := p.stp.nex (out := out) (a := a) (by rw [upd_same]; exact fun z => nomatch z) n
  exact ⟨e1, t, p.rel.unlock e1 n', p.val.unlock e1 n' (fun b z => lock_none z) fun b z q => n (.inr (.inr (q ▸ z)))⟩
theorem EndO.lock {o : Out} (h : EndO K mg φ out ρ σ H En o) (e : H a = some (.dK ks)) (n : ¬ exc φ out ρ σ a) : EndO K mg φ out ρ σ (upd H a (.frz od (.dK ks)))
    ⟨fun σ' H' => H' a = some (.frz od (.dK ks)) ∧ En.nx σ' (upd H' a (.dK ks)), fun v H' => H' a = some (.frz od (.dK ks)) ∧ En.rt v (upd H' a (.dK ks)), fun σ' H' => H' a = some (.frz od (.dK ks)) ∧ En.bk σ' (upd H' a (.dK ks)), fun σ' H' => H' a = some (.frz od (.dK ks)) ∧ En.ct σ' (upd H' a (.dK ks))⟩ o := by
  have go : ∀ {ρ' : Env'} {S' : Sto} {σ' : L2.St} {H' : Hp} {φ' : List Addr}, Stp φ ρ σ (upd H a (.frz od (.dK ks))) φ' ρ' σ' H' → Rel K mg φ' out ρ' S' σ' H' → H' a = some (.frz od (.dK ks)) ∧ Stp φ ρ σ H φ' ρ' σ' (upd H' a (.dK ks)) ∧ Rel K mg φ' out ρ' S' σ' (upd H' a (.dK ks)) := fun t R => by
    obtain ⟨e1, t1⟩ := t.unlock e (fun z => n (.inl z)) (fun z => n (.inr (.inr z)))
    exact ⟨e1, t1, R.unlock e1 (t.nex (by rw [upd_same]; exact fun z => nomatch z) n)⟩
  cases o with
  | nx ρ' S' => exact fun σ' H' φ' t R => let ⟨a, b, c⟩ := go t R; ⟨a, h σ' _ φ' b c⟩
  | bk ρ' S' => exact fun σ' H' φ' t R => let ⟨a, b, c⟩ := go t R; ⟨a, h σ' _ φ' b c⟩
  | ct ρ' S' => exact fun σ' H' φ' t R => let ⟨a, b, c⟩ := go t R; ⟨a, h σ' _ φ' b c⟩
  | rt x S' => exact fun v H' φ' p => let ⟨a, b⟩ := p.unlock e n; ⟨a, h v _ φ' b⟩
/-- the frame's names go -/
theorem Rel.leave (R : Rel K mg φ out ρ S σ H) : Rel K mg φ out [] S [] H ∧ ∀ b, ownA [] [] b → ownA ρ σ b := by
  have own : ∀ b, ownA [] [] b → ownA ρ σ b := fun b ⟨i, d, e, _⟩ => by cases e
  have m : Mv φ φ (exc φ out ρ σ) (exc φ out [] []) H H := own_mv own
  refine ⟨⟨rfl, fun i d e => (by cases e), fun i d e => (by cases e), fun i j a d e z => (by cases z), fun n o e => ?_, R.sl, R.nd, R.no, R.ot⟩, own⟩
  obtain ⟨a, e1, h1⟩ := R.st n o e
  exact ⟨a, e1, h1.mv m fun _ q => q⟩
theorem Post.leave {x : Op} {v : V} (hx : ∀ i, x ≠ .sl i) (p : Post K mg φ out ρ σ H x ρ' S' v H' φ') : PostR K mg φ out ρ σ H x S' v H' φ' := by
  obtain ⟨R1, own⟩ := p.rel.leave
  refine ⟨p.stp.trans (own_stp own), R1, ?_⟩
  have h := p.val
  cases x with
  | fz d => exact RepV.mv (own_mv own) h
  | sl i => exact absurd rfl (hx i)
  | fr d =>
    obtain ⟨a, e, h1, h2, h3, h4⟩ := h
    exact ⟨a, e, h1.leave.1, h2.mv (own_mv h1.leave.2) fun _ q => q, h3, h4⟩
/-- a list, a dict of one's own comes into a slot -/
theorem Rel.setOw {a : Addr} {d : D} (R : Rel K mg φ (fun b => out b ∨ b = a) ρ S σ H) (h : ObjD K mg φ (exc φ (fun b => out b ∨ b = a) ρ σ) H a d) (ho : ¬ out a) {i : Nat} :
    Rel K mg φ out (ρ.set i (.ow d)) S (σ.set i (some (.ref a))) H ∧ ∀ b, ownA (ρ.set i (.ow d)) (σ.set i (some (.ref a))) b → b = a ∨ ownA ρ σ b := by
  have cases' : ∀ {j : Nat} {s : Sl}, (ρ.set i (.ow d))[j]? = some s → (i = j ∧ s = .ow d ∧ (σ.set i (some (.ref a)))[j]? = some (some (.ref a))) ∨ (i ≠ j ∧ ρ[j]? = some s ∧ (σ.set i (some (.ref a)))[j]? = σ[j]?) := fun {j s} e => by
    by_cases z : i = j
    · subst z
      by_cases hl : i < ρ.length
      · rw [List.getElem?_set_self hl] at e
        exact .inl ⟨rfl, (Option.some.inj e).symm, List.getElem?_set_self (R.len ▸ hl)⟩
      · rw [List.getElem?_eq_none (by simpa using hl)] at e
        cases e
    · rw [List.getElem?_set_ne z] at e
      exact .inr ⟨z, e, List.getElem?_set_ne z⟩
  have own : ∀ b, ownA (ρ.set i (.ow d)) (σ.set i (some (.ref a))) b → b = a ∨ ownA ρ σ b := fun b ⟨j, x, e1, e2⟩ => by
    rcases cases' e1 with ⟨_, _, z⟩ | ⟨_, z1, z2⟩
    · rw [e2] at z
      cases z
      exact .inl rfl
    · exact .inr ⟨j, x, z1, z2 ▸ e2⟩
  have m : Mv φ φ (exc φ (fun b => out b ∨ b = a) ρ σ) (exc φ out (ρ.set i (.ow d)) (σ.set i (some (.ref a)))) H H := .less fun b z => by
    rcases z with z | z | z
    · exact .inl z
    · exact .inr (.inl (.inl z))
    · exact (own b z).elim (fun z => .inr (.inl (.inr z))) fun z => .inr (.inr z)
  have na : a ∉ φ := fun z => R.no a z (.inr rfl)
  refine ⟨⟨by rw [List.length_set, List.length_set]; exact R.len, fun j x e => ?_, fun j x e => ?_, fun u v w x y q1 q2 q3 q4 => ?_, fun n ob e => ?_, R.sl, R.nd, fun b q z => R.no b q (.inl z), fun b z => R.ot b (.inl z)⟩, own⟩
  · rcases cases' e with ⟨_, z, _⟩ | ⟨_, z1, z2⟩
    · cases z
    · obtain ⟨v, e1, h1⟩ := R.va j x z1
      exact ⟨v, z2.trans e1, h1.mv m⟩
  · rcases cases' e with ⟨_, z, z2⟩ | ⟨_, z1, z2⟩
    · cases z
      exact ⟨a, z2, h.mv m fun _ q => q, na, ho⟩
    · obtain ⟨b, e1, h1, h2, h3⟩ := R.ow j x z1
      exact ⟨b, z2.trans e1, h1.mv m fun _ q => q, h2, fun z => h3 (.inl z)⟩
  · have ne : ∀ {j : Nat} {x : D}, ρ[j]? = some (.ow x) → σ[j]? = some (some (.ref a)) → False := fun {j x} e1 e2 => by
      obtain ⟨b, e3, _, _, h3⟩ := R.ow j x e1
      rw [e2] at e3
      cases e3
      exact h3 (.inr rfl)
    rcases cases' q1 with ⟨z1, _, z2⟩ | ⟨z1, z2, z3⟩ <;> rcases cases' q2 with ⟨y1, _, y2⟩ | ⟨y1, y2, y3⟩
    · exact z1.symm.trans y1
    · rw [q3] at z2
      cases z2
      rw [y3] at q4
      exact (ne y2 q4).elim
    · rw [q4] at y2
      cases y2
      rw [z3] at q3
      exact (ne z2 q3).elim
    · exact R.owi u v w x y z2 y2 (z3 ▸ q3) (y3 ▸ q4)
  · obtain ⟨b, e1, h1⟩ := R.st n ob e
    exact ⟨b, e1, h1.mv m fun _ q => q⟩
/-- a list, a dict of one's own is written no more -/
theorem Rel.freeze (R : Rel K mg φ out ρ S σ H) {i : Nat} {d : D} (hi : ρ[i]? = some (.ow d)) : Rel K mg φ out (ρ.set i (.va d)) S σ H ∧ ∀ b, ownA (ρ.set i (.va d)) σ b → ownA ρ σ b := by
  obtain ⟨a, e1, h1, h2, h3⟩ := R.ow i d hi
  obtain ⟨R2, h4⟩ := R.moved hi e1
  have hl : i < ρ.length := (List.getElem?_eq_some_iff.mp hi).1
  have own : ∀ b, ownA (ρ.set i (.va d)) σ b → ownA (ρ.set i .no) σ b := fun b ⟨j, x, q1, q2⟩ => by
    by_cases z : i = j
    · subst z
      rw [List.getElem?_set_self hl] at q1
      cases q1
    · rw [List.getElem?_set_ne z] at q1
      exact ⟨j, x, by rw [List.getElem?_set_ne z]; exact q1, q2⟩
  have own2 : ∀ b, ownA (ρ.set i (.va d)) σ b → ownA ρ σ b := fun b ⟨j, x, q1, q2⟩ => by
    by_cases z : i = j
    · subst z
      rw [List.getElem?_set_self hl] at q1
      cases q1
    · rw [List.getElem?_set_ne z] at q1
      exact ⟨j, x, q1, q2⟩
  have m0 : ∀ b, exc φ out (ρ.set i (.va d)) σ b → exc φ (fun b => out b ∨ b = a) (ρ.set i .no) σ b := fun b z => z.imp id fun z => z.imp .inl (own b)
  have m : Mv φ φ (exc φ out ρ σ) (exc φ out (ρ.set i (.va d)) σ) H H := own_mv own2
  have na : ¬ exc φ out (ρ.set i (.va d)) σ a := fun z => by
    rcases z with z | z | z
    · exact h2 z
    · exact h3 z
    · obtain ⟨j, x, q1, q2⟩ := own a z
      obtain ⟨b, e3, _, _, h5⟩ := R2.ow j x q1
      rw [q2] at e3
      cases e3
      exact h5 (.inr rfl)
  have hv : RepV K mg φ (exc φ out (ρ.set i (.va d)) σ) H d (.ref a) := h4.rep m0 na
  refine ⟨⟨by rw [List.length_set]; exact R.len, fun j x e => ?_, fun j x e => ?_, fun u v w x y q1 q2 q3 q4 => ?_, fun n ob e => ?_, R.sl, R.nd, R.no, R.ot⟩, own2⟩
  · by_cases z : i = j
    · subst z
      rw [List.getElem?_set_self hl] at e
      cases e
      exact ⟨_, e1, hv⟩
    · rw [List.getElem?_set_ne z] at e
      obtain ⟨v, q1, q2⟩ := R.va j x e
      exact ⟨v, q1, q2.mv m⟩
  · by_cases z : i = j
    · subst z
      rw [List.getElem?_set_self hl] at e
      cases e
    · rw [List.getElem?_set_ne z] at e
      obtain ⟨b, q1, q2, q3⟩ := R.ow j x e
      exact ⟨b, q1, q2.mv m fun _ q => q, q3⟩
  · have sub : ∀ {j : Nat} {x : D}, (ρ.set i (.va d))[j]? = some (.ow x) → ρ[j]? = some (.ow x) := fun {j x} e => by
      by_cases z : i = j
      · subst z
        rw [List.getElem?_set_self hl] at e
        cases e
      · rw [List.getElem?_set_ne z] at e
        exact e
    exact R.owi u v w x y (sub q1) (sub q2) q3 q4
  · obtain ⟨b, q1, q2⟩ := R.st n ob e
    exact ⟨b, q1, q2.mv m fun _ q => q⟩
end

/-! ### the two texts -/
def locB (sc : Scope) (x : Str) : Bool := match sc.names.lookup x with
  | some .local => true
  | some .cell => true
  | _ => false
/-- a comprehension put into a name: the way the model takes -/
def swB (sc : Scope) (y : Str) (py : Pos) : Expr → Bool
  | .ListComp _ _ scope pos => decide (sc.names.lookup y = some .local) && (py.line == pos.line) && !(scope.names.any fun (n, k) => n == y && (k == .local || k == .cell))
  | _ => false
def isLc : Expr → Bool
  | .ListComp .. => true
  | .SetComp .. => true
  | .DictComp .. => true
  | _ => false
def otherC : Expr → Bool
  | .SetComp .. => true
  | .DictComp .. => true
  | _ => false
def swN (n : Nat) : Expr → Bool
  | .Tuple vs _ _ => !(n == 2 || n == 3) || vs.length != n || vs.all (foldedForSure 8)
  | _ => true
def starred : Expr → Bool
  | .Starred .. => true
  | _ => false
mutual
def mS (sc : Scope) (N : List Str) : CS → Stmt → Bool
  | .asg i e, st => (match st with
    | .Assign [.Name x _] v _ => decide (N[i]? = some x) && locB sc x && mE sc N e v && !otherC v
    | _ => false)
  | .asgO i e, st => (match st with
    | .Assign [.Name x _] v _ => decide (N[i]? = some x) && locB sc x && mE sc N e v && !otherC v
    | _ => false)
  | .asgT is e, st => (match st with
    | .Assign [.Tuple ts n p] v _ => tgN N (.many is) (.Tuple ts n p) && tgLoc sc (.Tuple ts n p) && mE sc N e v && swN ts.length v && !otherC v
    | _ => false)
  | .asgP i j a b, st => (match st with
    | .Assign [.Tuple [.Name x px, .Name y py] _ _] (.Tuple [v, w] _ _) _ => decide (N[i]? = some x) && decide (N[j]? = some y) && decide (i ≠ j) && decide (sc.names.lookup x = some .local) && decide (sc.names.lookup y = some .local) && mEs sc N [a, b] [v, w] &&
      (px.line == py.line) && (x != y) && !([v, w].all (foldedForSure 8)) && !([v, w].all (constantsAlone 8))
    | _ => false)
  | .aug i o e, st => (match st with
    | .AugAssign (.Name x _) op v _ => decide (N[i]? = some x) && locB sc x && decide (opOf o = op) && mE sc N e v
    | _ => false)
  | .setI o k e, st => (match st with
    | .Assign [.Subscript x y _] v _ => mE sc N o x && mE sc N k y && mE sc N e v && plainE y && !otherC v
    | _ => false)
  | .setA o f e, st => (match st with
    | .Assign [.Attribute x n _] v _ => decide (n = f) && mE sc N o x && mE sc N e v && !isLc v
    | _ => false)
  | .mk _ _, _ => false
  | .xpr e, st => (match st with
    | .Expr v _ => mE sc N e v && !isLc v
    | _ => false)
  | .ret e, st => (match st with
    | .Return (some v) _ => mE sc N e v
    | _ => false)
  | .retN, st => (match st with
    | .Return none _ => true
    | _ => false)
  | .ife c a b, st => (match st with
    | .If v x y _ => mE sc N c v && mSs sc N a x && mSs sc N b y
    | _ => false)
  | .whl c b, st => (match st with
    | .While v x [] _ => mE sc N c v && mSs sc N b x
    | _ => false)
  | .for_ tg it b, st => (match st with
    | .For t i x [] _ => mI sc N it i t && tgN N tg t && tgLoc sc t && mSs sc N b x
    | _ => false)
  | .brk, st => (match st with
    | .Break _ => true
    | _ => false)
  | .cnt, st => (match st with
    | .Continue _ => true
    | _ => false)
  | .pas, st => (match st with
    | .Pass _ => true
    | _ => false)
  | .frz _ s, st => mS sc N s st
def mSs (sc : Scope) (N : List Str) : List CS → List Stmt → Bool
  | [], l => l.isEmpty
  | c :: cs, l => (match l with
    | e :: r => mS sc N c e && mSs sc N cs r
    | [] => false)
end
section
variable (T : Tab) (k : Nat) (X : Cx)
abbrev evst (c : CS) (ρ : Env') (S : Sto) := evS T.G (callK T.G T.F T.M k) T.M c ρ S
abbrev evsts (c : List CS) (ρ : Env') (S : Sto) := evSs T.G (callK T.G T.F T.M k) T.M c ρ S
def TSv (c : CS) : TS := fun D σ H => ∃ φ out ρ S o, Rel X.K X.mg φ out ρ S σ H ∧ evst T k c ρ S = some o ∧ EndO X.K X.mg φ out ρ σ H D o
def TSsv (c : List CS) : TS := fun D σ H => ∃ φ out ρ S o, Rel X.K X.mg φ out ρ S σ H ∧ evsts T k c ρ S = some o ∧ EndO X.K X.mg φ out ρ σ H D o
structure SS (c : CS) : Prop where
  ps : ∀ X sc st, Good T k X sc → X.env.scope.kind = .function → PassesOwn (model X.prog X.w) X.A X.env X.xe → mS sc X.N c st = true → PS X st (TSv T k X c)
structure SSs (c : List CS) : Prop where
  ps : ∀ X sc st, Good T k X sc → X.env.scope.kind = .function → PassesOwn (model X.prog X.w) X.A X.env X.xe → mSs sc X.N c st = true → PSs X st (TSsv T k X c)
end
section
variable {T : Tab} {k : Nat} {X : Cx} {sc : Scope}
theorem locB_of (g : Good T k X sc) {x : Str} (h : locB sc x = true) : Loc X.env.scope x ∧ (X.fn x = true ∨ X.env.scope.names.lookup x = some .local) := loc_of g h
theorem sw_none {e : Expr} {t : Option Expr} {l : Nat} {env : Env} (h : isLc e = false) : swapsWith e t l env = pure false := by
  cases e <;> first
    | rfl
    | cases h
theorem sw_name (g : Good T k X sc) (hk : X.env.scope.kind = .function) {y : Str} (hy : locB sc y = true) {py : Pos} {v : Expr} {l : Nat} (ho : otherC v = false) (h : swB sc y py v = false) : swapsWith v (some (.Name y py)) l X.env = pure false := by
  cases v with
  | ListComp elt gs scope pos =>
    have hb : X.env.blockKind = .function := by unfold Env.blockKind; rw [hk]; rfl
    have h' : (decide (sc.names.lookup y = some .local) && (py.line == pos.line) && !(scope.names.any fun (n, k) => n == y && (k == .local || k == .cell))) = false := h
    have ky : (X.env.kindOf y == some .local) = decide (sc.names.lookup y = some .local) := by
      unfold locB at hy
      split at hy
      · rename_i e
        have := g.loc y e
        show (X.env.scope.names.lookup y == some .local) = _
        rw [this, e]
        rfl
      · rename_i e
        have := g.cel y e
        show (X.env.scope.names.lookup y == some .local) = _
        rw [this, e]
        rfl
      · cases hy
    unfold swapsWith
    simp only [hb, ky, Expr.pos]
    show (pure (true && decide (sc.names.lookup y = some .local) && (py.line == pos.line) && !(scope.names.any fun (n, k) => n == y && (k == .local || k == .cell))) : Sem Bool) = pure false
    rw [Bool.true_and, h']
  | SetComp _ _ _ _ => cases ho
  | DictComp _ _ _ _ _ => cases ho
  | _ => rfl
/-- y = [..] over a dict -/
theorem lcA_conv {elt : CE} {tg : Tg} {it : It'} {cs : List CE} {σ : L2.St} {H : Hp} {D : Ends} {i : Nat} (hl : isLk it = true) (h : tAsg (TEv T k X (.lc elt tg it cs)) (gName i) D σ H) :
    tLock (tAsg (tLc (lkRd it (pTE X.K (lkPath it))) (gT X.K tg) (TCv T k X cs) (TEv T k X elt) ((ownOf X.N tg).map (·.2))) (gName i)) D σ H ∨ tAsg (tLc (lkRd it (pTE X.K (lkPath it))) (gT X.K tg) (TCv T k X cs) (TEv T k X elt) ((ownOf X.N tg).map (·.2))) (gName i) D σ H := by
  obtain ⟨φ, out, ρ, S, o, ρ', S', R, e, q⟩ := h
  simp only [ev, evE] at e
  obtain ⟨ds, ρ1, S1, ei, e⟩ := bnd_inv e
  split at e
  · rename_i no
    obtain ⟨r, ρ2, S2, el, e⟩ := bnd_inv e
    cases e
    rw [ownOf_ix]
    obtain ⟨rfl, rfl, a, ks, hr, n, go⟩ := lk_goes hl R ei
    rcases hr with hr | ⟨o, hr⟩
    · refine .inl ⟨a, .dK ks, hr, trivial, fun od => go _ od (lk_on hr) upd_same _ fun J ok D' hD => ?_⟩
      exact lc_walk (Q := fun v H' => H' a = some (.frz od (.dK ks)) ∧ D.nx (σ.set i (some v)) (upd H' a (.dK ks))) no el (fun v H' φ' p => by
        obtain ⟨e1, p1⟩ := p.unlock hr n
        exact ⟨e1, q v _ φ' p1⟩) .refl (R.lock hr n) ok hD
    · refine .inr (go _ o ⟨fun _ _ _ z => z⟩ hr _ fun J ok D' hD => ?_)
      exact lc_walk no el q .refl R ok hD
  · cases e
theorem psOr {X : Cx} {s : Stmt} {t1 t2 : TS} (h1 : PS X s t1) (h2 : PS X s t2) : PS X s (fun D σ H => t1 D σ H ∨ t2 D σ H) := ⟨fun pins s σ H D I q => q.elim (h1.run pins s σ H D I) (h2.run pins s σ H D I)⟩
theorem ps_name0 (g : Good T k X sc) (hk : X.env.scope.kind = .function) {i : Nat} {y : Str} {py pos : Pos} {e : CE} {v : Expr} (hN : X.N[i]? = some y) (hy : locB sc y = true) (ho : otherC v = false) (h : mE sc X.N e v = true)
    (hal : ∀ e', e = .al e' → PS X (.Assign [.Name y py] v pos) (tAsg (TEv T k X e') (gName i))) : PS X (.Assign [.Name y py] v pos) (tAsg (TEv T k X e) (gName i)) := by
  obtain ⟨l1, l2⟩ := locB_of g hy
  cases hw : swB sc y py v with
  | false => exact ps_set g.nd hN l1 ((sE T k e).pe X sc v g h) (sw_name g hk hy ho hw) l2
  | true =>
    cases v with
    | ListComp x gens scope vp =>
      have hw' : (decide (sc.names.lookup y = some .local) && (py.line == vp.line) && !(scope.names.any fun (n, k) => n == y && (k == .local || k == .cell))) = true := hw
      simp only [Bool.and_eq_true, decide_eq_true_eq, Bool.not_eq_true'] at hw'
      obtain ⟨⟨w1, w2⟩, w3⟩ := hw'
      cases e with
      | lc elt tg it cs =>
        unfold mE at h
        split at h
        · rename_i x' t i' ifs scope' pos' heq
          cases heq
          simp only [Bool.and_eq_true, decide_eq_true_eq] at h
          obtain ⟨⟨⟨⟨⟨⟨h1, h2⟩, h3⟩, h4⟩, h5⟩, h6⟩, h7⟩ := h
          have mk : ∀ wi : TI, PI X t i' wi → (∀ x, foldedSetIterable i' X.env x = pure x) → PS X _ (tAsg (tLc wi (gT X.K tg) (TCv T k X cs) (TEv T k X elt) ((ownOf X.N tg).map (·.2))) (gName i)) := fun wi p1 p2 =>
            ps_setLc (g := gT X.K tg) (tt := TCv T k X cs) (te := TEv T k X elt) (py := py) (spos := pos) g.calm g.nd hN (g.loc y w1) (sw_true hk (g.loc y w1) w2 w3) p1 (g.blkOk h4) (fun s H C cl fp => pg_tg (g.blk s H C cl fp) h2 h3) (fun s H C cl fp => pts_of (g.blk s H C cl fp) (sL T k cs) h6) (fun s H C cl fp => (sE T k elt).pe _ _ _ (g.blk s H C cl fp) h5) p2
          cases hl : isLk it with
          | false =>
            obtain ⟨p1, p2⟩ := (sI T k it).pi X sc _ _ g hl h1
            exact psC (mk _ p1 p2) fun D σ H q => lc_conv q
          | true =>
            obtain ⟨p1, p2⟩ := lk_pi g hl h1
            exact psC (psOr (ps_lock (mk _ p1 p2)) (mk _ p1 p2)) fun D σ H q => lcA_conv hl q
        · cases h
      | al e' => exact psC (hal e' rfl) fun D σ H q => al_conv X σ H _ q
      | _ => cases h
    | _ => cases hw
theorem ps_name (g : Good T k X sc) (hk : X.env.scope.kind = .function) {i : Nat} {y : Str} {py pos : Pos} {v : Expr} (hN : X.N[i]? = some y) (hy : locB sc y = true) (ho : otherC v = false) : ∀ {e : CE}, mE sc X.N e v = true →
    PS X (.Assign [.Name y py] v pos) (tAsg (TEv T k X e) (gName i))
  | .al e', h => ps_name0 g hk hN hy ho h fun e'' z => by
    cases z
    exact ps_name g hk hN hy ho (e := e') h
  | .var _, h | .rd _, h | .mv _, h | .non, h | .bl _, h | .int _, h | .str _, h | .glo _, h | .tup _, h | .lst _, h | .dis _, h | .bop _ _ _, h | .neg _, h | .no _, h | .cmp _ _ _, h | .chn _ _ _ _ _, h | .and _ _, h | .orr _ _, h | .ite _ _ _, h | .sub _ _, h
  | .slc _ _ _, h | .rev _, h | .bf _ _, h | .bf2 _ _ _, h | .mt _ _ _, h | .call _ _, h | .meth _ _ _, h | .new _ _, h | .attr _ _, h | .lrev _, h | .lc _ _ _ _, h => ps_name0 g hk hN hy ho h fun e'' z => nomatch z
theorem s_asg {i : Nat} {e : CE} : SS T k (.asg i e) := by
  refine ⟨fun X sc st g hk hp h => ?_⟩
  unfold mS at h
  split at h
  · rename_i x px v p
    simp only [Bool.and_eq_true, decide_eq_true_eq, Bool.not_eq_true'] at h
    obtain ⟨⟨⟨h1, h2⟩, h3⟩, h4⟩ := h
    refine psC (ps_name g hk h1 h2 h4 h3) fun D σ H ⟨φ, out, ρ, S, o, R, es, q⟩ => ?_
    simp only [evst, evS] at es
    obtain ⟨x, ρ1, S1, ea, es⟩ := bnd_inv es
    obtain ⟨d, ed, es⟩ := obd_inv es
    cases es
    refine one R ea fun w H1 φ1 p1 => ?_
    obtain ⟨R2, own⟩ := p1.rel.slot (i := i) (s := .va d) (o := some w) (.inr ⟨d, w, rfl, rfl, ROp.toV p1.rel p1.val ed⟩)
    exact q _ _ _ (p1.stp.trans (own_stp own)) R2
  · cases h
theorem s_asgO {i : Nat} {e : CE} : SS T k (.asgO i e) := by
  refine ⟨fun X sc st g hk hp h => ?_⟩
  unfold mS at h
  split at h
  · rename_i x px v p
    simp only [Bool.and_eq_true, decide_eq_true_eq, Bool.not_eq_true'] at h
    obtain ⟨⟨⟨h1, h2⟩, h3⟩, h4⟩ := h
    refine psC (ps_name g hk h1 h2 h4 h3) fun D σ H ⟨φ, out, ρ, S, o, R, es, q⟩ => ?_
    simp only [evst, evS] at es
    obtain ⟨x, ρ1, S1, ea, es⟩ := bnd_inv es
    split at es
    · rename_i d
      cases es
      refine one R ea fun w H1 φ1 p1 => ?_
      obtain ⟨a, rfl, h1, h2, h3, h4⟩ := p1.val
      obtain ⟨R2, own⟩ := h1.setOw h2 h3 (i := i)
      refine q _ _ _ ⟨p1.stp.pre, p1.stp.nw, p1.stp.fr, fun b z => ?_, p1.stp.kp⟩ R2
      rcases own b z with rfl | z
      · exact h4.symm
      · exact p1.stp.on b z
    · cases es
  · cases h
end
end Sk

/-! Sk15: all statements. -/
namespace Sk
open PySem PySem.Spec PyProof.Rows L2

section
variable {T : Tab} {k : Nat} {X : Cx} {sc : Scope}
/-! ### several names -/
theorem swapped_none {ts : List Expr} {n : Nat} {p : Pos} {v : Expr} {env : Env} (h : swN ts.length v = true) : swappedStores [.Tuple ts n p] v env = pure none := by
  cases v with
  | Tuple vs m q =>
    have h' : (!(ts.length == 2 || ts.length == 3) || vs.length != ts.length || vs.all (foldedForSure 8)) = true := h
    unfold swappedStores
    simp only [Bool.or_eq_true] at h'
    show (if (!(ts.length == 2 || ts.length == 3) || vs.length != ts.length || env.blockKind != .function) = true then _ else _) = _
    split
    · rfl
    · rename_i hn
      have hf : vs.all (foldedForSure 8) = true := by
        rcases h' with (h' | h') | h'
        · exact absurd (by simp [h']) hn
        · exact absurd (by simp [h']) hn
        · exact h'
      show (if (vs.any fun | .Starred .. => true | _ => false) = true then _ else _) = _
      split
      · rfl
      · dsimp only
        split
        · rfl
        · rfl
  | _ => rfl
theorem swapped_two {x y : Str} {px py p q : Pos} {n m : Nat} {v w : Expr} (g : Good T k X sc) (hk : X.env.scope.kind = .function) (hx : sc.names.lookup x = some .local) (hy : sc.names.lookup y = some .local) (hv : starred v = false) (hw : starred w = false)
    (hl : (px.line == py.line) = true) (hn : (x != y) = true) (h1 : ([v, w].all (foldedForSure 8)) = false) (h2 : ([v, w].all (constantsAlone 8)) = false) :
    swappedStores [.Tuple [.Name x px, .Name y py] n p] (.Tuple [v, w] m q) X.env = pure (some [x, y]) := by
  have kx : (X.env.kindOf x == some .local) = true := by
    show (X.env.scope.names.lookup x == some .local) = true
    rw [g.loc x hx]; rfl
  have ky : (X.env.kindOf y == some .local) = true := by
    show (X.env.scope.names.lookup y == some .local) = true
    rw [g.loc y hy]; rfl
  have hb : X.env.blockKind = .function := by unfold Env.blockKind; rw [hk]; rfl
  have sv : ([v, w].any fun | .Starred .. => true | _ => false) = false := by
    cases v <;> first
      | (cases hv; done)
      | (cases w <;> first
          | (cases hw; done)
          | rfl)
  unfold swappedStores
  show (if (!([Expr.Name x px, .Name y py].length == 2 || [Expr.Name x px, .Name y py].length == 3) || [v, w].length != [Expr.Name x px, .Name y py].length || X.env.blockKind != .function) = true then _ else _) = _
  rw [if_neg (by rw [hb]; exact Bool.false_ne_true)]
  show (if ([v, w].any fun | .Starred .. => true | _ => false) = true then _ else _) = _
  rw [sv]
  rw [if_neg Bool.false_ne_true]
  have hl' : (py.line == px.line) = true := by
    rw [beq_iff_eq] at hl ⊢
    exact hl.symm
  have e1 : (X.env.kindOf x == some .local && px.line == (([Expr.Name x px, .Name y py].head?.map (·.pos.line)).getD 0)) = true := by
    rw [kx]
    exact beq_self_eq_true px.line
  have e2 : (X.env.kindOf y == some .local && py.line == (([Expr.Name x px, .Name y py].head?.map (·.pos.line)).getD 0)) = true := by
    rw [ky]
    exact hl'
  have ne : ([x, y] : List Str).eraseDups.length = 2 := by
    have h : (y == x) = false := by
      rw [beq_eq_false_iff_ne]
      exact Ne.symm (bne_iff_ne.mp hn)
    simp [List.eraseDups_cons, h]
  simp only [List.filterMap_cons, List.filterMap_nil, e1, e2, if_true]
  rw [if_neg (by rw [ne]; exact Bool.false_ne_true), h1, h2]
  rfl
theorem plain_star {e : Expr} (h : plainE e = true) : starred e = false := by
  cases e <;> first
    | rfl
    | cases h
theorem sole_tup {ts : List Expr} {n : Nat} {p : Pos} {v : Expr} {l : Nat} {env : Env} : swapsWithSole [.Tuple ts n p] v l env = pure false := by
  cases v <;> rfl
theorem sole_sub {x y : Expr} {p : Pos} {v : Expr} {l : Nat} {env : Env} : swapsWithSole [.Subscript x y p] v l env = pure false := by
  cases v <;> rfl
theorem s_asgT {is : List Nat} {e : CE} : SS T k (.asgT is e) := by
  refine ⟨fun X sc st g hk hp h => ?_⟩
  unfold mS at h
  split at h
  · rename_i ts n p v pos
    simp only [Bool.and_eq_true, Bool.not_eq_true'] at h
    obtain ⟨⟨⟨⟨h1, h2⟩, h3⟩, h4⟩, h5⟩ := h
    refine psC (ps_asg ((sE T k e).pe X sc v g h3) (pg_tg g h1 h2) sole_tup (swapped_none h4)) fun D σ H ⟨φ, out, ρ, S, o, R, es, q⟩ => ?_
    simp only [evst, evS] at es
    obtain ⟨x, ρ1, S1, ea, es⟩ := bnd_inv es
    obtain ⟨d, ed, es⟩ := obd_inv es
    split at es
    · rename_i ds
      obtain ⟨ρ2, e2, es⟩ := obd_inv es
      cases es
      refine one R ea fun w H1 φ1 p1 => ?_
      exact bind_ok p1.rel (ROp.toV p1.rel p1.val ed) (t := .many is) e2 fun σ' R2 own _ _ => q _ _ _ (p1.stp.trans (own_stp own)) R2
    · cases es
  · cases h
theorem s_asgP {i j : Nat} {a b : CE} : SS T k (.asgP i j a b) := by
  refine ⟨fun X sc st g hk hp h => ?_⟩
  unfold mS at h
  split at h
  · rename_i x px y py n p v w m q pos
    simp only [Bool.and_eq_true, decide_eq_true_eq, Bool.not_eq_true'] at h
    obtain ⟨⟨⟨⟨⟨⟨⟨⟨⟨h1, h2⟩, h3⟩, h4⟩, h5⟩, h6⟩, h7⟩, h8⟩, h9⟩, h10⟩ := h
    have sv := plain_star (all_inv h6).2.1
    have sw := plain_star (all_inv (all_inv h6).2.2).2.1
    refine psC (ps_par g.calm g.nd h1 h2 h3 (g.loc _ h4) (g.loc _ h5) (pa_of g (sL T k [a, b]) h6) (swapped_two g hk h4 h5 sv sw h7 h8 h9 h10) sole_tup) fun D σ H ⟨φ, out, ρ, S, o, R, es, q⟩ => ?_
    simp only [evst, evS] at es
    obtain ⟨ds, ρ1, S1, ea, es⟩ := bnd_inv es
    split at es
    · rename_i dx dy
      cases es
      refine ⟨φ, out, ρ, S, _, ρ1, S1, R, ea, fun vs H1 φ1 t1 R1 hv => ?_⟩
      cases hv with
      | cons hv1 hv2 =>
        cases hv2 with
        | cons hv2 hv3 =>
          cases hv3
          rename_i u1 u2
          obtain ⟨R2, own2⟩ := R1.slot (i := i) (s := .va dx) (o := some u1) (.inr ⟨dx, u1, rfl, rfl, hv1⟩)
          obtain ⟨R3, own3⟩ := R2.slot (i := j) (s := .va dy) (o := some u2) (.inr ⟨dy, u2, rfl, rfl, hv2.mv (own_mv own2)⟩)
          exact ⟨u1, u2, rfl, q _ _ _ ((t1.trans (own_stp own2)).trans (own_stp own3)) R3⟩
    · cases es
  · cases h
/-! ### name op= e -/
def anyP (X : Cx) (op : Operator) : TIp := fun x y H Q => ∃ t : TIp, PIp X op t ∧ t x y H Q
theorem ip_any : PIp X op (anyP X op) := fun pins s σ H x y v u Q I rx ry ⟨_, o, q⟩ => o pins s σ H x y v u Q I rx ry q
theorem aug_rule {X : Cx} {φ : List Addr} {ex : Addr → Prop} {H : Hp} {o : BO} {a b r : D} {v u : V} {Q : VK} (ha : RepV X.K X.mg φ ex H a v) (hb : RepV X.K X.mg φ ex H b u) (e : augD o a b = some r) (q : ∀ w, RepV X.K X.mg φ ex H r w → Q w H) : anyP X (opOf o) v u H Q := by
  unfold augD at e
  split at e
  · cases e
    exact ⟨_, iop_add, _, _, RepV.toInt ha, RepV.toInt hb, q _ (.int _)⟩
  · cases e
    exact ⟨_, iop_sub, _, _, RepV.toInt ha, RepV.toInt hb, q _ (.int _)⟩
  · split at e
    · rename_i hm
      cases e
      exact ⟨_, iop_mul, _, _, RepV.toInt ha, RepV.toInt hb, hm, q _ (.int _)⟩
    · cases e
  · split at e
    · rename_i hm
      cases e
      exact ⟨_, iop_fdivW, _, _, RepV.toInt ha, RepV.toInt hb, hm, q _ (.int _)⟩
    · cases e
  · split at e
    · rename_i hm
      cases e
      exact ⟨_, iop_mod, _, _, RepV.toInt ha, RepV.toInt hb, hm, q _ (.int _)⟩
    · cases e
  · split at e
    · rename_i hm
      cases e
      exact ⟨_, iop_add_str, _, _, RepV.toStr ha, RepV.toStr hb, hm, q _ (.str _)⟩
    · cases e
  · cases e
theorem s_aug {i : Nat} {o : BO} {e : CE} : SS T k (.aug i o e) := by
  refine ⟨fun X sc st g hk hp h => ?_⟩
  unfold mS at h
  split at h
  · rename_i x px op v p
    simp only [Bool.and_eq_true, decide_eq_true_eq] at h
    obtain ⟨⟨⟨h1, h2⟩, rfl⟩, h3⟩ := h
    obtain ⟨l1, l2⟩ := locB_of g h2
    refine psC (ps_aug g.nd h1 l1 ((sE T k e).pe X sc v g h3) ip_any l2) fun D σ H ⟨φ, out, ρ, S, o, R, es, q⟩ => ?_
    simp only [evst, evS] at es
    split at es
    · rename_i d hd
      obtain ⟨x, ρ1, S1, ea, es⟩ := bnd_inv es
      obtain ⟨y, ey, es⟩ := obd_inv es
      obtain ⟨r, er, es⟩ := obd_inv es
      cases es
      obtain ⟨v0, e0, h0⟩ := R.va i d hd
      refine ⟨v0, e0, one R ea fun w H1 φ1 p1 => aug_rule (h0.mv (p1.stp.mv R fun _ z => .inl z)) (ROp.toV p1.rel p1.val ey) er fun z hz => ?_⟩
      obtain ⟨R2, own⟩ := p1.rel.slot (i := i) (s := .va r) (o := some z) (.inr ⟨r, z, rfl, rfl, hz⟩)
      exact q _ _ _ (p1.stp.trans (own_stp own)) R2
    · cases es
  · cases h
/-! ### o[k] = e -/
def anySet (X : Cx) : TSet := fun o i v H Q => ∃ t : TSet, PSet X t ∧ t o i v H Q
theorem set_any : PSet X (anySet X) := fun pins s σ H o i v ov iv u Q I ro ri rv ⟨_, h, q⟩ => h pins s σ H o i v ov iv u Q I ro ri rv q
theorem assign_sub {o i : Expr} {p : Pos} {env : Env} (h : plainE i = true) : ∀ v, assign (.Subscript o i p) env v = (do
      let ov ← holding [v] (eval o env)
      let iv ← holding [v, ov] (eval i env)
      standAt p
      holding [v, ov, iv] (setItem ov iv v)
      release [v, ov, iv] []) := by
  intro v
  cases i <;> first
    | rfl
    | cases h
theorem setI_inv {ρ : Env'} {S : Sto} {o k' e : CE} {r : Out} (es : evst T k (.setI o k' e) ρ S = some r) : ∃ x ρ1 S1 v p ρ2 S2 y ρ3 S3 kd c d q', ev T k e ρ S = some (x, ρ1, S1) ∧ x.d = some v ∧ ev T k o ρ1 S1 = some (p, ρ2, S2) ∧ ev T k k' ρ2 S2 = some (y, ρ3, S3) ∧ y.d = some kd ∧
    cont ρ3 S3 p = some c ∧ setC ρ3 S3 p d = some q' ∧ r = .nx q'.1 q'.2 ∧
    ((∃ ds i j, c = .lst ds ∧ kd = .int i ∧ ixN ds.length i = some j ∧ d = .lst (ds.set j v)) ∨ (∃ kvs, c = .dct kvs ∧ isKey kd = true ∧ kvs.length < sizeLine ∧ d = .dct (dput kvs kd v))) := by
  simp only [evst, evS] at es
  obtain ⟨x, ρ1, S1, ea, es⟩ := bnd_inv es
  obtain ⟨v, ev', es⟩ := obd_inv es
  obtain ⟨p, ρ2, S2, eb, es⟩ := bnd_inv es
  obtain ⟨y, ρ3, S3, ec, es⟩ := bnd_inv es
  obtain ⟨kd, ek, es⟩ := obd_inv es
  obtain ⟨c, ecc, es⟩ := obd_inv es
  split at es
  · obtain ⟨j, ej, es⟩ := obd_inv es
    obtain ⟨q', eq, es⟩ := obd_inv es
    exact ⟨x, ρ1, S1, v, p, ρ2, S2, y, ρ3, S3, _, _, _, q', ea, ev', eb, ec, ek, ecc, eq, (Option.some.inj es).symm, .inl ⟨_, _, j, rfl, rfl, ej, rfl⟩⟩
  · split at es
    · rename_i hz
      obtain ⟨q', eq, es⟩ := obd_inv es
      exact ⟨x, ρ1, S1, v, p, ρ2, S2, y, ρ3, S3, _, _, _, q', ea, ev', eb, ec, ek, ecc, eq, (Option.some.inj es).symm, .inr ⟨_, rfl, hz.1, hz.2, rfl⟩⟩
    · cases es
  · cases es
theorem s_setI {o k' e : CE} : SS T k (.setI o k' e) := by
  refine ⟨fun X sc st g hk hp h => ?_⟩
  unfold mS at h
  split at h
  · rename_i x y p v pos
    simp only [Bool.and_eq_true, Bool.not_eq_true'] at h
    obtain ⟨⟨⟨⟨h1, h2⟩, h3⟩, h4⟩, h5⟩ := h
    refine psC (ps_asg ((sE T k e).pe X sc v g h3) (pg_sub ((sE T k o).pe X sc x g h1) ((sE T k k').pe X sc y g h2) set_any (assign_sub h4)) sole_sub) fun D σ H ⟨φ, out, ρ, S, r, R, es, q⟩ => ?_
    obtain ⟨x, ρ1, S1, v, p, ρ2, S2, y, ρ3, S3, kd, c, d, ⟨ρ4, S4⟩, ea, ex, eb, ec, ek, ecc, eq, rfl, hc⟩ := setI_inv es
    refine one R ea fun w H1 φ1 p1 => one p1.rel eb fun u H2 φ2 p2 => one p2.rel ec fun z H3 φ3 p3 => ?_
    have m2 := (p2.stp.trans p3.stp).mv (out' := out) p1.rel fun _ z => .inl z
    have m3 := p3.stp.mv (out' := out) p2.rel fun _ z => .inl z
    have hw := (ROp.toV p1.rel p1.val ex).mv m2
    have hu := (p2.val.op p2.rel).mv m3
    have hz := ROp.toV p3.rel p3.val ek
    have t := (p1.stp.trans p2.stp).trans p3.stp
    obtain ⟨a, rfl, ho, hx⟩ := cont_mut p3.rel hu ecc eq
    have hx' : exc φ3 out ρ3 σ a := hx.imp id .inr
    rcases hc with ⟨ds, i, j, rfl, rfl, ej, rfl⟩ | ⟨kvs, rfl, hkk, hl, rfl⟩
    · obtain ⟨vs, e1, r1⟩ := ho
      refine ⟨_, set_list, a, vs, i, j, rfl, hz.toInt, e1, by rw [← r1.length]; exact ej, ?_⟩
      obtain ⟨R4, t4, _⟩ := setC_ok (ho := .lst (vs.set j w)) p3.rel hu eq ⟨_, upd_same, (r1.set j hw).mv (upd_mv hx')⟩
      exact q _ _ _ (t.trans t4) R4
    · obtain ⟨ks, e1, r1⟩ := ho
      obtain ⟨k2, ek2⟩ := isKey_to hkk
      refine ⟨_, set_dict (by have := g.hu; omega), a, _, rfl, .inl ⟨ks, k2, e1, toKey_kV ek2 hz, by rw [← r1.length]; exact hl, rfl⟩, ?_⟩
      obtain ⟨R4, t4, _⟩ := setC_ok (ho := .dK (putK ks k2 w)) p3.rel hu eq ⟨_, upd_same, (r1.put ek2 hw).mv (upd_mv hx')⟩
      exact q _ _ _ (t.trans t4) R4
  · cases h
/-- an object's field is written -/
theorem Rel.setIns {K : PySem.W.Frag} {mg : Str → Option Value} {φ : List Addr} {out : Addr → Prop} {ρ : Env'} {S : Sto} {σ : L2.St} {H : Hp} (R : Rel K mg φ out ρ S σ H) {n : Nat} {a : Addr} {o : O} {ho : HO} (hn : n < S.length) (hA : φ[n]? = some a) (new : ObjS K mg φ (exc φ out ρ σ) (upd H a ho) a o) :
    Rel K mg φ out ρ (S.set n o) σ (upd H a ho) ∧ Stp φ ρ σ H φ ρ σ (upd H a ho) := by
  have hm : a ∈ φ := List.mem_of_getElem? hA
  have hx : exc φ out ρ σ a := .inl hm
  have m : Mv φ φ (exc φ out ρ σ) (exc φ out ρ σ) H (upd H a ho) := upd_mv hx
  have kp : ∀ b, H b ≠ none → (upd H a ho) b ≠ none := upd_kp
  refine ⟨⟨R.len, fun i d e => ?_, fun i d e => ?_, R.owi, fun k ob e => ?_, by rw [List.length_set]; exact R.sl, R.nd, R.no, fun b z => kp b (R.ot b z)⟩, ⟨fun _ _ e => e, fun _ z => .inl z, fun b o e n1 n2 => by rw [upd_ne (fun z : b = a => n1 (by rw [z]; exact hm))]; exact e, fun b z => .inl z, kp⟩⟩
  · obtain ⟨v, q1, q2⟩ := R.va i d e
    exact ⟨v, q1, q2.mv m⟩
  · obtain ⟨b, q1, q2, q3, q4⟩ := R.ow i d e
    exact ⟨b, q1, q2.mv m fun w hw => by rw [upd_ne (fun z : b = a => q3 (z ▸ hm))]; exact hw, q3, q4⟩
  · by_cases z : n = k
    · subst z
      rw [List.getElem?_set_self hn] at e
      cases e
      exact ⟨a, hA, new⟩
    · rw [List.getElem?_set_ne z] at e
      obtain ⟨b, q1, q2⟩ := R.st k ob e
      refine ⟨b, q1, q2.mv m fun w hw => ?_⟩
      rw [upd_ne (fun q : b = a => z ?_)]
      · exact hw
      · obtain ⟨l1, x1⟩ := List.getElem?_eq_some_iff.mp hA
        obtain ⟨l2, x2⟩ := List.getElem?_eq_some_iff.mp q1
        exact (List.getElem_inj R.nd).mp (x1.trans (q ▸ x2.symm))
theorem setA_inv {ρ : Env'} {S : Sto} {o e : CE} {f : Str} {r : Out} (es : evst T k (.setA o f e) ρ S = some r) : ∃ x ρ1 S1 v n ρ2 S2 c fs s, ev T k e ρ S = some (x, ρ1, S1) ∧ x.d = some v ∧ ev T k o ρ1 S1 = some (.fz (.ref n), ρ2, S2) ∧ S2[n]? = some (.ins c fs) ∧ T.M c (atName f) = some s ∧ fs.length < 1000 ∧ r = .nx ρ2 (S2.set n (.ins c (putFD f v fs))) := by
  simp only [evst, evS] at es
  obtain ⟨x, ρ1, S1, ea, es⟩ := bnd_inv es
  obtain ⟨v, ed, es⟩ := obd_inv es
  obtain ⟨p, ρ2, S2, eo, es⟩ := bnd_inv es
  split at es
  · rename_i n
    split at es
    · rename_i c fs hs
      obtain ⟨s, hm, es⟩ := obd_inv es
      split at es
      · rename_i hl
        cases es
        exact ⟨x, ρ1, S1, v, n, ρ2, S2, c, fs, s, ea, ed, eo, hs, hm, hl, rfl⟩
      · cases es
    · cases es
  · cases es
theorem s_setA {o e : CE} {f : Str} : SS T k (.setA o f e) := by
  refine ⟨fun X sc st g hk hp h => ?_⟩
  unfold mS at h
  split at h
  · rename_i x n p1 v p2
    simp only [Bool.and_eq_true, decide_eq_true_eq, Bool.not_eq_true'] at h
    obtain ⟨⟨⟨rfl, h1⟩, h2⟩, h3⟩ := h
    refine psC (ps_fld ((sE T k o).pe X sc x g h1) ((sE T k e).pe X sc v g h2) (sw_none h3)) fun D σ H ⟨φ, out, ρ, S, r, R, es, q⟩ => ?_
    obtain ⟨x, ρ1, S1, d, m, ρ2, S2, c, fs, s, ea, ed, eo, hs, hm, hl, rfl⟩ := setA_inv es
    refine one R ea fun w H1 φ1 p1 => one p1.rel eo fun u H2 φ2 p2 => ?_
    obtain ⟨A, C, dx, gs, rfl, hA, h3, h4, h5⟩ := ins_of p2.rel p2.val hs
    obtain ⟨C', h6, h7, h8⟩ := g.A c n s hm
    cases mg_inj h4 h6
    have hv := (ROp.toV p1.rel p1.val ed).mv (p2.stp.mv (out' := out) p1.rel fun _ z => .inl z)
    have hx : exc φ2 out ρ2 σ A := .inl (List.mem_of_getElem? hA)
    have hfl : fs.length = gs.length := Paired.length h5
    obtain ⟨R3, t3⟩ := p2.rel.setIns (o := .ins c (putFD n d fs)) (ho := .ins C dx (putF n w gs)) (List.getElem?_eq_some_iff.mp hs).1 hA ⟨C, dx, _, upd_same, h4, putFD_rep (hv.mv (upd_mv hx)) (Paired.mapP h5 fun _ _ z => ⟨z.1, z.2.mv (upd_mv hx)⟩)⟩
    exact ⟨A, C, dx, gs, rfl, h3, h7, h8, by omega, q σ _ φ2 ((p1.stp.trans p2.stp).trans t3) R3⟩
  · cases h
theorem s_xpr {e : CE} : SS T k (.xpr e) := by
  refine ⟨fun X sc st g hk hp h => ?_⟩
  unfold mS at h
  split at h
  · rename_i v pos
    simp only [Bool.and_eq_true, Bool.not_eq_true'] at h
    refine psC (ps_expr ((sE T k e).pe X sc v g h.1) (sw_none h.2)) fun D σ H ⟨φ, out, ρ, S, r, R, es, q⟩ => ?_
    simp only [evst, evS] at es
    obtain ⟨x, ρ1, S1, ea, es⟩ := bnd_inv es
    cases es
    exact one R ea fun w H1 φ1 p1 => q _ _ _ p1.stp p1.rel
  · cases h
theorem s_ret {e : CE} : SS T k (.ret e) := by
  refine ⟨fun X sc st g hk hp h => ?_⟩
  unfold mS at h
  split at h
  · rename_i v pos
    refine psC (ps_ret ((sE T k e).pe X sc v g h)) fun D σ H ⟨φ, out, ρ, S, r, R, es, q⟩ => ?_
    simp only [evst, evS] at es
    obtain ⟨x, ρ1, S1, ea, es⟩ := bnd_inv es
    cases x with
    | sl i => cases es
    | fz d =>
      cases es
      exact one R ea fun w H1 φ1 p1 => q _ _ _ (p1.leave fun i z => (nomatch z))
    | fr d =>
      cases es
      exact one R ea fun w H1 φ1 p1 => q _ _ _ (p1.leave fun i z => (nomatch z))
  · cases h
theorem s_retN : SS T k .retN := by
  refine ⟨fun X sc st g hk hp h => ?_⟩
  unfold mS at h
  split at h
  · refine psC ps_retN fun D σ H ⟨φ, out, ρ, S, r, R, es, q⟩ => ?_
    have es' : some (Out.rt (.fz .non) S) = some r := es
    cases es'
    obtain ⟨R1, own⟩ := R.leave
    exact q _ _ _ ⟨own_stp own, R1, .non⟩
  · cases h
theorem s_ife {c : CE} {a b : List CS} (sa : SSs T k a) (sb : SSs T k b) : SS T k (.ife c a b) := by
  refine ⟨fun X sc st g hk hp h => ?_⟩
  unfold mS at h
  split at h
  · rename_i v x y p
    simp only [Bool.and_eq_true] at h
    obtain ⟨⟨h1, h2⟩, h3⟩ := h
    refine psC (ps_if ((sE T k c).pt X sc v g h1) (sa.ps X sc x g hk hp h2) (sb.ps X sc y g hk hp h3)) fun D σ H ⟨φ, out, ρ, S, r, R, es, q⟩ => ?_
    simp only [evst, evS] at es
    obtain ⟨x, ρ1, S1, ea, es⟩ := bnd_inv es
    split at es
    · exact ⟨φ, out, ρ, S, true, ρ1, S1, R, ea, fun H' φ' t R' => ⟨φ', out, ρ1, S1, r, R', es, q.step t⟩⟩
    · exact ⟨φ, out, ρ, S, false, ρ1, S1, R, ea, fun H' φ' t R' => ⟨φ', out, ρ1, S1, r, R', es, q.step t⟩⟩
    · cases es
  · cases h
theorem evc_one {c : CE} {ρ : Env'} {S : Sto} {b : Bool} {ρ' : Env'} {S' : Sto} (e : evc T k [c] ρ S = some (b, ρ', S')) : ev T k c ρ S = some (.fz (.bl b), ρ', S') := by
  simp only [evc, evC] at e
  obtain ⟨x, ρ1, S1, ea, e⟩ := bnd_inv e
  split at e
  · cases e; exact ea
  · cases e; exact ea
  · cases e
theorem s_whl {c : CE} {b : List CS} (sb : SSs T k b) : SS T k (.whl c b) := by
  refine ⟨fun X sc st g hk hp h => ?_⟩
  unfold mS at h
  split at h
  · rename_i v x p
    simp only [Bool.and_eq_true] at h
    refine psC (ps_while hp ((sE T k c).pt X sc v g h.1) (sb.ps X sc x g hk hp h.2)) fun D σ H ⟨φ, out, ρ, S, r, R, es, q⟩ => ?_
    simp only [evst, evS] at es
    refine ⟨fun m σ' H' => ∃ φ' ρ' S', Rel X.K X.mg φ' out ρ' S' σ' H' ∧ Stp φ ρ σ H φ' ρ' σ' H' ∧ whlL (fun ρ S => evc T k [c] ρ S) (fun ρ S => evsts T k b ρ S) m ρ' S' = some r, ⟨fuel, φ, ρ, S, R, .refl, es⟩, ?_⟩
    rintro m σ1 H1 ⟨φ1, ρ1, S1, R1, t1, e⟩
    cases m with
    | zero => cases e
    | succ m =>
      obtain ⟨bb, ρ2, S2, e2, e⟩ := bnd_inv (show bnd (evc T k [c] ρ1 S1) _ = some r from e)
      refine ⟨φ1, out, ρ1, S1, bb, ρ2, S2, R1, evc_one e2, fun H2 φ2 t2 R2 => ?_⟩
      cases bb with
      | false =>
        rw [if_neg Bool.false_ne_true]
        cases e
        exact q _ _ _ (t1.trans t2) R2
      | true =>
        rw [if_pos rfl]
        obtain ⟨rr, e3, e⟩ := obd_inv e
        refine ⟨fun σ' H' => ∃ φ' ρ' S', Rel X.K X.mg φ' out ρ' S' σ' H' ∧ Stp φ ρ σ H φ' ρ' σ' H' ∧ whlL (fun ρ S => evc T k [c] ρ S) (fun ρ S => evsts T k b ρ S) m ρ' S' = some r, fun σ' H' w => ⟨m, Nat.lt_succ_self m, w⟩, φ2, out, ρ2, S2, rr, R2, e3, ?_⟩
        cases rr with
        | nx ρ3 S3 => exact fun σ3 H3 φ3 t3 R3 => ⟨φ3, ρ3, S3, R3, (t1.trans t2).trans t3, e⟩
        | ct ρ3 S3 => exact fun σ3 H3 φ3 t3 R3 => ⟨φ3, ρ3, S3, R3, (t1.trans t2).trans t3, e⟩
        | bk ρ3 S3 =>
          cases e
          exact fun σ3 H3 φ3 t3 R3 => q _ _ _ ((t1.trans t2).trans t3) R3
        | rt x S3 =>
          cases e
          exact fun v H3 φ3 p3 => q _ _ _ (p3.trans (t1.trans t2))
  · cases h
theorem forL_cons {tg : Tg} {one : Env' → Sto → Option Out} {d : D} {ds : List D} {ρ : Env'} {S : Sto} {o : Out} (e : forL tg one (d :: ds) ρ S = some o) : ∃ ρ1 r, bindT tg d ρ = some ρ1 ∧ one ρ1 S = some r ∧ (match r with
      | .nx ρ2 S2 => forL tg one ds ρ2 S2
      | .ct ρ2 S2 => forL tg one ds ρ2 S2
      | .bk ρ2 S2 => some (.nx ρ2 S2)
      | .rt o S2 => some (.rt o S2)) = some o := by
  obtain ⟨ρ1, e1, e2⟩ := obd_inv (show obd (bindT tg d ρ) _ = some o from e)
  obtain ⟨r, e3, e4⟩ := obd_inv e2
  exact ⟨ρ1, r, e1, e3, e4⟩
/-- the turns of a loop -/
theorem for_walk {X : Cx} {tg : Tg} {b : List CS} {ds : List D} {r : Out} {φ1 : List Addr} {out : Addr → Prop} {ρ1 : Env'} {S1 : Sto} {σ : L2.St} {H1 : Hp} {J : It} {D : Ends} (R1 : Rel X.K X.mg φ1 out ρ1 S1 σ H1) (ok : ItOk X.K X.mg φ1 (exc φ1 out ρ1 σ) J ds H1)
    (es : forL tg (fun ρ S => evsts T k b ρ S) ds ρ1 S1 = some r) (q : EndO X.K X.mg φ1 out ρ1 σ H1 D r) :
    ∃ W : Nat → Nat → L2.St → Hp → Prop, (∃ m, W 0 m σ H1) ∧ ∀ i m σ H, W i m σ H →
      (J.stop i H ∧ D.nx σ H) ∨ (J.go i H ∧ ∃ N : L2.St → Hp → Prop, (∀ σ' H', N σ' H' → ∃ m', m' < m ∧ W (i + 1) m' σ' H') ∧ ∀ x H', J.yld i H x H' → gT X.K tg x σ H' fun σ2 H2 => TSsv T k X b { D with nx := N, ct := N, bk := D.nx } σ2 H2) := by
  let W : Nat → Nat → L2.St → Hp → Prop := fun i m σ' H' => m = ds.length - i ∧ i ≤ ds.length ∧ ∃ φ' ρ' S', Rel X.K X.mg φ' out ρ' S' σ' H' ∧ Stp φ1 ρ1 σ H1 φ' ρ' σ' H' ∧ forL tg (fun ρ S => evsts T k b ρ S) (ds.drop i) ρ' S' = some r
  refine ⟨W, ⟨ds.length, by omega, Nat.zero_le _, φ1, ρ1, S1, R1, .refl, es⟩, ?_⟩
  rintro i m σ2 H2 ⟨rfl, hi, φ2, ρ2, S2, R2, t2, e⟩
  have oks := ok φ2 _ H2 (t2.mv R1 fun _ z => .inl z) (fun b z => R2.ex_some z) i
  by_cases hlt : i < ds.length
  · right
    obtain ⟨go, yld⟩ := oks.1 _ (List.getElem?_eq_getElem hlt)
    refine ⟨go, fun σ' H' => W (i + 1) (ds.length - (i + 1)) σ' H', fun σ' H' w => ⟨_, by omega, w⟩, fun x H' y => ?_⟩
    rw [List.drop_eq_getElem_cons hlt] at e
    obtain ⟨ρ3, rr, e1, e3, e4⟩ := forL_cons e
    have turn : ∀ H', Rel X.K X.mg φ2 out ρ2 S2 σ2 H' → Stp φ1 ρ1 σ H1 φ2 ρ2 σ2 H' → RepV X.K X.mg φ2 (exc φ2 out ρ2 σ2) H' ds[i] x →
        gT X.K tg x σ2 H' fun σ4 H4 => TSsv T k X b { D with nx := fun σ' H' => W (i + 1) (ds.length - (i + 1)) σ' H', ct := fun σ' H' => W (i + 1) (ds.length - (i + 1)) σ' H', bk := D.nx } σ4 H4 := fun H' R' t' rx => by
      refine bind_ok R' rx e1 fun σ4 R4 own4 _ _ => ⟨φ2, out, ρ3, S2, rr, R4, e3, ?_⟩
      have t4 := t'.trans (own_stp own4)
      cases rr with
      | nx ρ5 S5 => exact fun σ5 H5 φ5 t5 R5 => ⟨rfl, hlt, φ5, ρ5, S5, R5, t4.trans t5, e4⟩
      | ct ρ5 S5 => exact fun σ5 H5 φ5 t5 R5 => ⟨rfl, hlt, φ5, ρ5, S5, R5, t4.trans t5, e4⟩
      | bk ρ5 S5 =>
        cases e4
        exact fun σ5 H5 φ5 t5 R5 => q _ _ _ (t4.trans t5) R5
      | rt x S5 =>
        cases e4
        exact fun v H5 φ5 p5 => q _ _ _ (p5.trans t4)
    rcases yld x H' y with ⟨rfl, rx⟩ | ⟨p, o, hp', rfl, rx⟩
    · exact turn _ R2 t2 rx
    · exact turn _ (R2.new hp') (t2.trans (new_stp hp')) rx
  · left
    have hi' : i = ds.length := by omega
    refine ⟨oks.2 hi', ?_⟩
    rw [hi', List.drop_length] at e
    cases e
    exact q _ _ _ t2 R2
/-- over a dict, locked or locked before -/
theorem for_lk {X : Cx} {tg : Tg} {it : It'} {b : List CS} {D : Ends} {σ : L2.St} {H : Hp} (hl : isLk it = true) (h : TSv T k X (.for_ tg it b) D σ H) :
    tLock (tFor (lkRd it (pTE X.K (lkPath it))) (gT X.K tg) (TSsv T k X b)) D σ H ∨ tFor (lkRd it (pTE X.K (lkPath it))) (gT X.K tg) (TSsv T k X b) D σ H := by
  obtain ⟨φ, out, ρ, S, r, R, es0, q⟩ := h
  simp only [evst, evS] at es0
  obtain ⟨ds, ρ1, S1, ei, es⟩ := bnd_inv es0
  clear es0
  have q : EndO X.K X.mg φ out ρ σ H D r := q
  obtain ⟨rfl, rfl, a, ks, hr, n, go⟩ := lk_goes hl R ei
  rcases hr with hr | ⟨o, hr⟩
  · exact .inl ⟨a, .dK ks, hr, trivial, fun od => go _ od (lk_on hr) upd_same _ fun J ok => for_walk (R.lock hr n) ok es (EndO.lock (o := r) q hr n)⟩
  · exact .inr (go _ o ⟨fun _ _ _ z => z⟩ hr _ fun J ok => for_walk R ok es q)
theorem s_for {tg : Tg} {it : It'} {b : List CS} (sb : SSs T k b) : SS T k (.for_ tg it b) := by
  refine ⟨fun X sc st g hk hp h => ?_⟩
  unfold mS at h
  split at h
  · rename_i t i x p
    simp only [Bool.and_eq_true] at h
    obtain ⟨⟨⟨h1, h2⟩, h3⟩, h4⟩ := h
    cases hl : isLk it with
    | false =>
      obtain ⟨p1, p2⟩ := (sI T k it).pi X sc i t g hl h1
      refine psC (ps_for hp g.calm p1 (pg_tg g h2 h3) (sb.ps X sc x g hk hp h4) p2) fun D σ H ⟨φ, out, ρ, S, r, R, es, q⟩ => ?_
      simp only [evst, evS] at es
      obtain ⟨ds, ρ1, S1, ei, es⟩ := bnd_inv es
      exact ⟨φ, out, ρ, S, ds, ρ1, S1, R, ei, fun J H1 φ1 t1 R1 ok => for_walk R1 ok es (q.step t1)⟩
    | true =>
      obtain ⟨p1, p2⟩ := lk_pi g hl h1
      have pf := ps_for (pos := p) hp g.calm p1 (pg_tg g h2 h3) (sb.ps X sc x g hk hp h4) p2
      exact psC (psOr (ps_lock pf) pf) fun D σ H q => for_lk hl q
  · cases h
theorem s_frz {i : Nat} {s : CS} (ss : SS T k s) : SS T k (.frz i s) := by
  refine ⟨fun X sc st g hk hp h => ?_⟩
  have h' : mS sc X.N s st = true := h
  refine psC (ss.ps X sc st g hk hp h') fun D σ H ⟨φ, out, ρ, S, r, R, es, q⟩ => ?_
  simp only [evst, evS] at es
  split at es
  · rename_i d hd
    obtain ⟨R1, own⟩ := R.freeze hd
    exact ⟨φ, out, _, S, r, R1, es, q.step (own_stp own)⟩
  · exact ⟨φ, out, ρ, S, r, R, es, q⟩
  · cases es
theorem ss_false {c : CS} (h : ∀ sc N e, mS sc N c e = false) : SS T k c := ⟨fun X sc st g hk hp m => absurd ((h sc X.N st).symm.trans m) Bool.false_ne_true⟩
theorem s_brk : SS T k .brk := by
  refine ⟨fun X sc st g hk hp h => ?_⟩
  unfold mS at h
  split at h
  · refine psC ps_break fun D σ H ⟨φ, out, ρ, S, r, R, es, q⟩ => ?_
    have es' : some (Out.bk ρ S) = some r := es
    cases es'
    exact q _ _ _ .refl R
  · cases h
theorem s_cnt : SS T k .cnt := by
  refine ⟨fun X sc st g hk hp h => ?_⟩
  unfold mS at h
  split at h
  · refine psC ps_continue fun D σ H ⟨φ, out, ρ, S, r, R, es, q⟩ => ?_
    have es' : some (Out.ct ρ S) = some r := es
    cases es'
    exact q _ _ _ .refl R
  · cases h
theorem s_pas : SS T k .pas := by
  refine ⟨fun X sc st g hk hp h => ?_⟩
  unfold mS at h
  split at h
  · refine psC ps_pass fun D σ H ⟨φ, out, ρ, S, r, R, es, q⟩ => ?_
    have es' : some (Out.nx ρ S) = some r := es
    cases es'
    exact q _ _ _ .refl R
  · cases h
theorem ss_nil : SSs T k [] := by
  refine ⟨fun X sc st g hk hp h => ?_⟩
  cases st with
  | nil =>
    refine pssC pss_nil fun D σ H ⟨φ, out, ρ, S, r, R, es, q⟩ => ?_
    have es' : some (Out.nx ρ S) = some r := es
    cases es'
    exact q _ _ _ .refl R
  | cons _ _ => cases h
theorem ss_cons {c : CS} {cs : List CS} (s1 : SS T k c) (s2 : SSs T k cs) : SSs T k (c :: cs) := by
  refine ⟨fun X sc st g hk hp h => ?_⟩
  cases st with
  | nil => cases h
  | cons e l =>
    have h' : (mS sc X.N c e && mSs sc X.N cs l) = true := h
    rw [Bool.and_eq_true] at h'
    refine pssC (pss_cons (s1.ps X sc e g hk hp h'.1) (s2.ps X sc l g hk hp h'.2)) fun D σ H ⟨φ, out, ρ, S, r, R, es, q⟩ => ?_
    simp only [evsts, evSs] at es
    obtain ⟨o, e1, es⟩ := obd_inv es
    refine ⟨φ, out, ρ, S, o, R, e1, ?_⟩
    cases o with
    | nx ρ1 S1 => exact fun σ1 H1 φ1 t1 R1 => ⟨φ1, out, ρ1, S1, r, R1, es, q.step t1⟩
    | bk ρ1 S1 => cases es; exact q
    | ct ρ1 S1 => cases es; exact q
    | rt x S1 => cases es; exact q
end
section
variable (T : Tab) (k : Nat)
mutual
theorem sS : ∀ c : CS, SS T k c
  | .asg _ _ => s_asg
  | .asgO _ _ => s_asgO
  | .asgT _ _ => s_asgT
  | .asgP _ _ _ _ => s_asgP
  | .aug _ _ _ => s_aug
  | .setI _ _ _ => s_setI
  | .setA _ _ _ => s_setA
  | .mk _ _ => ss_false fun _ _ _ => rfl
  | .xpr _ => s_xpr
  | .ret _ => s_ret
  | .retN => s_retN
  | .ife _ a b => s_ife (sSs a) (sSs b)
  | .whl _ b => s_whl (sSs b)
  | .for_ _ _ b => s_for (sSs b)
  | .brk => s_brk
  | .cnt => s_cnt
  | .pas => s_pas
  | .frz _ s => s_frz (sS s)
theorem sSs : ∀ c : List CS, SSs T k c
  | [] => ss_nil
  | c :: cs => ss_cons (sS c) (sSs cs)
end
end
end Sk

/-! Sk16: defs. -/
namespace Sk
open PySem PySem.Spec PyProof.Rows L2

/-- a def of the text: its key, its names' slots, its parameters, its compact text, its text; its name, qualified name, the class at which it is found -/
structure Dn where
  name : Str
  N : List Str
  ps : List Str
  code : List CS
  args : Arguments
  body : List Stmt
  scope : Scope
  py : Str
  qual : Str
  cls : Option Str
def Dn.fn (d : Dn) : Fn := ⟨d.N.length, d.ps.length, d.code⟩
/-- how the parameters are bound -/
def Dn.Bd (d : Dn) : Prop := ∀ (kV doc pm : Value) (an : Option Addr) (cdv ct : Value) (us : List Value), us.length = d.ps.length → bindArgs (PySem.W.fnOf d.py d.qual d.args d.body d.scope .none kV doc pm an cdv ct) ⟨us, []⟩ = pure (d.ps.zip us)
def Dn.key (d : Dn) : Bool := match d.cls with
  | none => isDef d.name
  | some _ => !isNew d.name && !isDef d.name
def Dn.ok (d : Dn) : Bool := C8.scC d.N d.ps d.scope && mSs d.scope d.N d.code d.body && d.key
/-- a class that is made: its name, how many arguments, the key of its __init__ -/
abbrev Mkd := Str × Nat × Str
def tabN (ms : List Mkd) (f : Str) : Option Fn := (ms.find? fun p => decide (newName p.1 = f)).map fun p => ⟨p.2.1, p.2.1, [.mk p.1 p.2.2]⟩
def tabF (ds : List Dn) (ms : List Mkd) (f : Str) : Option Fn := match ds.find? fun d => decide (d.name = f) with
  | some d => some d.fn
  | none => tabN ms f
def tabM (ds : List Dn) (nas : List (Str × Str)) (c m : Str) : Option Str := if isAt m = true then (nas.find? fun p => decide (p.1 = c ∧ atName p.2 = m)).map (·.2) else (ds.find? fun d => decide (d.cls = some c ∧ d.py = m)).map (·.name)
/-- where a def stands -/
def Dn.loc (K : PySem.W.Frag) (mg : Str → Option Value) (d : Dn) (A : Addr) : Prop := match d.cls with
  | none => mg d.name = some (.ref A)
  | some c => mg c = some (.ref (He.ga K c)) ∧ Cls K (He.ga K c) ∧ Meth K (He.ga K c) d.py A ∧ A = He.ma K (He.ga K c) d.py
/-- what the head tells of the module -/
structure Hd (T : Tab) (ds : List Dn) (ms : List Mkd) (nas : List (Str × Str)) (K : PySem.W.Frag) (mg : Str → Option Value) : Prop where
  F : T.F = tabF ds ms
  M : T.M = tabM ds nas
  ok : ∀ d ∈ ds, d.ok = true ∧ d.Bd
  fd : ∀ d ∈ ds, ∃ A fd, d.loc K mg A ∧ FunD K d.py d.qual d.args d.body d.scope [] [] A fd
  at_ : ∀ p ∈ nas, mg p.1 = some (.ref (He.ga K p.1)) ∧ Cls K (He.ga K p.1) ∧ NoAttr K (He.ga K p.1) p.2
  mks : ∀ p ∈ ms, mg p.1 = some (.ref (He.ga K p.1)) ∧ Mk K (He.ga K p.1) (He.ma K (He.ga K p.1) "__init__") ∧ ∃ d ∈ ds, d.name = p.2.2 ∧ d.cls = some p.1 ∧ d.py = "__init__" ∧ T.F d.name = some d.fn
  uq : ∀ d ∈ ds, T.F d.name = some d.fn
  blt : ∀ x ∈ bNames, mg x = none
  G : ∀ x d, T.G x = some d → ∃ u v, mg x = some u ∧ RelV v u ∧ ∀ φ ex H, RepV K mg φ ex H d v

section
variable {T : Tab} {ds : List Dn} {ms : List Mkd} {nas : List (Str × Str)} {K : PySem.W.Frag} {mg : Str → Option Value}
theorem tabF_inv {f : Str} {fn : Fn} (h : tabF ds ms f = some fn) : (∃ d ∈ ds, d.name = f ∧ d.fn = fn) ∨ tabN ms f = some fn := by
  unfold tabF at h
  split at h
  · rename_i d h1
    cases h
    exact .inl ⟨d, List.mem_of_find?_eq_some h1, (by have z := List.find?_some h1; exact of_decide_eq_true z), rfl⟩
  · exact .inr h
theorem tabN_inv {f : Str} {fn : Fn} (h : tabN ms f = some fn) : ∃ p ∈ ms, newName p.1 = f ∧ fn = ⟨p.2.1, p.2.1, [.mk p.1 p.2.2]⟩ := by
  unfold tabN at h
  simp only [Option.map_eq_some_iff] at h
  obtain ⟨p, h1, rfl⟩ := h
  exact ⟨p, List.mem_of_find?_eq_some h1, (by have z := List.find?_some h1; exact of_decide_eq_true z), rfl⟩
theorem new_isNew (c : Str) : isNew (newName c) = true := by
  have : (newName c).cps.toList = [110, 101, 119, 32] ++ c.cps.toList := by
    show (("new " : Str) ++ c).cps.toList = _
    exact Array.toList_append ..
  unfold isNew
  rw [this]
  rfl
theorem newName_inj {a b : Str} (h : newName a = newName b) : a = b := by
  have e : ∀ c : Str, (newName c).cps.toList = [110, 101, 119, 32] ++ c.cps.toList := fun c => by
    show (("new " : Str) ++ c).cps.toList = _
    exact Array.toList_append ..
  have := congrArg (fun z : Str => z.cps.toList) h
  rw [e, e] at this
  exact Str.ext' (Array.toList_inj.mp (List.append_cancel_left this))
theorem atName_inj {a b : Str} (h : atName a = atName b) : a = b := by
  have e : ∀ c : Str, (atName c).cps.toList = [46] ++ c.cps.toList := fun c => by
    show (("." : Str) ++ c).cps.toList = _
    exact Array.toList_append ..
  have := congrArg (fun z : Str => z.cps.toList) h
  rw [e, e] at this
  exact Str.ext' (Array.toList_inj.mp (List.append_cancel_left this))
theorem isAt_at (f : Str) : isAt (atName f) = true := by
  have : (atName f).cps.toList = [46] ++ f.cps.toList := by
    show (("." : Str) ++ f).cps.toList = _
    exact Array.toList_append ..
  unfold isAt
  rw [this]
  rfl
/-- the defs keep their promises, k calls deep -/
def AllOk (T : Tab) (ds : List Dn) (K : PySem.W.Frag) (mg : Str → Option Value) (P : Program) (w : World) (base : Heap) (k : Nat) : Prop := ∀ d ∈ ds, ∀ A fd, FunD K d.py d.qual d.args d.body d.scope [] [] A fd → d.loc K mg A → FnOk P w K mg base CX0 k A fd d.ps (spF T k d.name K mg)
theorem Hd.noNew (h : Hd T ds ms nas K mg) {d : Dn} (hd : d ∈ ds) : isNew d.name = false := by
  have := (h.ok d hd).1
  unfold Dn.ok Dn.key at this
  rw [Bool.and_eq_true] at this
  have := this.2
  split at this
  · unfold isDef at this
    rw [Bool.and_eq_true] at this
    simpa using this.1
  · rw [Bool.and_eq_true] at this
    simpa using this.1
/-- a def's body's context -/
theorem good_of (h : Hd T ds ms nas K mg) {P : Program} {w : World} {base : Heap} {k : Nat} (hF : ∀ j, j ≤ k → AllOk T ds K mg P w base j)
    {N ps : List Str} {qual : Str} {sc : Scope} {f : Addr} {cd : Value} {A : Around} {outer : List Env} {s : Shared} {H : Hp} {E : XK} (S : FnScope N ps sc) (hr : Room k (A.deeper (envOfC qual sc s.heap.objs.size f cd))) :
    Good T k (cxOf CX0 P w K mg base N qual sc f cd A outer s H E).nox sc where
  calm := rfl
  nd := S.nd
  loc := fun x e => e
  cel := fun x e => e
  fre := fun x e => .inr e
  glo := fun x e => e
  fnc := fun x e => rfl
  blt := h.blt
  room := hr
  G := h.G
  F := fun f fn hd e => by
    rw [h.F] at e
    rcases tabF_inv e with ⟨d, hm, rfl, rfl⟩ | e
    · obtain ⟨a, fd, l, F⟩ := h.fd d hm
      have hk : d.cls = none := by
        have := (h.ok d hm).1
        unfold Dn.ok Dn.key at this
        rw [Bool.and_eq_true] at this
        have := this.2
        cases hc : d.cls with
        | none => rfl
        | some c =>
          rw [hc] at this
          rw [hd] at this
          simp at this
      have l' := l
      unfold Dn.loc at l'
      rw [hk] at l'
      exact ⟨a, fd, d.ps, l', F.kp, F.bindsN (h.ok d hm).2, hF k (Nat.le_refl _) d hm a fd F l⟩
    · obtain ⟨p, _, rfl, _⟩ := tabN_inv e
      unfold isDef at hd
      rw [new_isNew] at hd
      cases hd
  M := fun c m f e ha => by
    rw [h.M] at e
    unfold tabM at e
    rw [if_neg (by rw [ha]; exact Bool.false_ne_true)] at e
    simp only [Option.map_eq_some_iff] at e
    obtain ⟨d, e1, rfl⟩ := e
    have hm := List.mem_of_find?_eq_some e1
    have z := List.find?_some e1
    obtain ⟨hc, rfl⟩ := of_decide_eq_true z
    obtain ⟨a, fd, l, F⟩ := h.fd d hm
    have l' := l
    unfold Dn.loc at l'
    rw [hc] at l'
    exact ⟨_, a, fd, d.ps, l'.1, l'.2.1, l'.2.2.1, F.bindsN (h.ok d hm).2, hF k (Nat.le_refl _) d hm a fd F l⟩
  A := fun c f s e => by
    rw [h.M] at e
    unfold tabM at e
    rw [if_pos (isAt_at f)] at e
    simp only [Option.map_eq_some_iff] at e
    obtain ⟨p, e1, _⟩ := e
    have hm := List.mem_of_find?_eq_some e1
    have z := List.find?_some e1
    obtain ⟨hc, hf⟩ := of_decide_eq_true z
    have := h.at_ p hm
    rw [hc, atName_inj hf] at this
    exact ⟨_, this⟩
  N := fun c fn e => by
    rw [h.F] at e
    rcases tabF_inv e with ⟨d, hm, hn, _⟩ | e
    · have := h.noNew hm
      rw [hn, new_isNew] at this
      cases this
    · obtain ⟨p, hp, hn, rfl⟩ := tabN_inv e
      have := newName_inj hn
      subst this
      obtain ⟨m1, m2, d, hd, e1, e2, e3, e4⟩ := h.mks p hp
      obtain ⟨a, fd, l, F⟩ := h.fd d hd
      have l' := l
      unfold Dn.loc at l'
      rw [e2] at l'
      obtain ⟨_, _, _, ea⟩ := l'
      rw [e3] at ea
      refine ⟨_, p.2.2, a, fd, d.ps, p.2.1, m1, ea ▸ m2, rfl, F.bindsN (h.ok d hd).2, fun j hj => ?_⟩
      have := hF j (by omega) d hd a fd F l
      rw [e1] at this
      exact this
theorem env0_va {n i : Nat} {ds : List D} {d : D} (e : (env0 n ds)[i]? = some (.va d)) : ds[i]? = some d := by
  unfold env0 at e
  by_cases h : i < ds.length
  · rw [List.getElem?_append_left (by simpa using h), List.getElem?_map] at e
    simp only [Option.map_eq_some_iff] at e
    obtain ⟨x, e1, e2⟩ := e
    cases e2
    exact e1
  · rw [List.getElem?_append_right (by simpa using h)] at e
    rw [List.getElem?_replicate] at e
    split at e <;> cases e
theorem env0_ow {n i : Nat} {ds : List D} {d : D} (e : (env0 n ds)[i]? = some (.ow d)) : False := by
  unfold env0 at e
  by_cases h : i < ds.length
  · rw [List.getElem?_append_left (by simpa using h), List.getElem?_map] at e
    simp only [Option.map_eq_some_iff] at e
    obtain ⟨x, e1, e2⟩ := e
    cases e2
  · rw [List.getElem?_append_right (by simpa using h)] at e
    rw [List.getElem?_replicate] at e
    split at e <;> cases e
theorem start_get {N : List Str} {vs : List V} {i : Nat} {v : V} (e : vs[i]? = some v) : (start N vs)[i]? = some (some v) := by
  unfold L2.start
  rw [List.getElem?_append_left (by simpa using (List.getElem?_eq_some_iff.mp e).1), List.getElem?_map, e]
  rfl
/-- at the entry -/
theorem Rel.enter {φ : List Addr} {out : Addr → Prop} {S : Sto} {H : Hp} {N : List Str} {as : List D} {vs : List V} (R : Rel K mg φ out [] S [] H) (r : RepVs K mg φ (exc φ out [] []) H as vs) :
    Rel K mg φ out (env0 N.length as) S (start N vs) H ∧ ∀ b, ¬ ownA (env0 N.length as) (start N vs) b := by
  have no : ∀ b, ¬ ownA (env0 N.length as) (start N vs) b := fun b ⟨i, d, e, _⟩ => env0_ow e
  have m : Mv φ φ (exc φ out [] []) (exc φ out (env0 N.length as) (start N vs)) H H := .less fun b z => z.imp id fun z => z.imp id fun z => (no b z).elim
  refine ⟨⟨?_, fun i d e => ?_, fun i d e => (env0_ow e).elim, fun i j a d e z => (env0_ow z).elim, fun n o e => ?_, R.sl, R.nd, R.no, R.ot⟩, no⟩
  · unfold env0 L2.start
    simp only [List.length_append, List.length_map, List.length_replicate]
    rw [r.length]
  · obtain ⟨v, e1, h1⟩ := r.get (env0_va e)
    exact ⟨v, start_get e1, h1.mv m⟩
  · obtain ⟨a, e1, h1⟩ := R.st n o e
    exact ⟨a, e1, h1.mv m fun _ q => q⟩
theorem runF_inv {G : Str → Option D} {C : Calls'} {M : Str → Str → Option Str} {f : Fn} {as : List D} {S : Sto} {r : Op × Sto} (e : runF G C M f as S = some r) : as.length = f.ps ∧ ∃ o, evSs G C M f.body (env0 f.n as) S = some o ∧ ((o = .rt r.1 r.2) ∨ (∃ ρ, o = .nx ρ r.2 ∧ r.1 = .fz .non)) := by
  unfold runF at e
  split at e
  · rename_i h
    obtain ⟨o, e1, e⟩ := obd_inv e
    refine ⟨h, o, e1, ?_⟩
    cases o with
    | rt x S => cases e; exact .inl rfl
    | nx ρ S => cases e; exact .inr ⟨ρ, rfl, rfl⟩
    | bk _ _ => cases e
    | ct _ _ => cases e
  · cases e
/-- a def keeps its promise, if those that it calls do -/
theorem fn_ok1 (h : Hd T ds ms nas K mg) {P : Program} {w : World} {base : Heap} {k : Nat} (ih : ∀ j, j ≤ k → AllOk T ds K mg P w base j)
    {d : Dn} (hd : d ∈ ds) {A : Addr} {fd : FuncData} (F : FunD K d.py d.qual d.args d.body d.scope [] [] A fd) : FnOk P w K mg base CX0 (k + 1) A fd d.ps (spF T (k + 1) d.name K mg) := by
  have e0 := h.uq d hd
  have hok := (h.ok d hd).1
  unfold Dn.ok at hok
  rw [Bool.and_eq_true, Bool.and_eq_true] at hok
  have hok := hok.1
  have S := C8.fnScope_by hok.1
  have hcall : ∀ as S, callK T.G T.F T.M (k + 1) d.name as S = runF T.G (callK T.G T.F T.M k) T.M d.fn as S := fun as S => by
    show obd (T.F d.name) _ = _
    rw [e0]
    rfl
  refine F.ok S (fun vs H Q E q => ?_) fun cdv A' outer s H vs Q E hr q => ?_
  · obtain ⟨φ, out, S0, as, r, S', _, hv, z, _⟩ := q
    rw [hcall] at z
    rw [← hv.length]
    exact (runF_inv z).1
  · refine ⟨TSsv T k (cxOf CX0 P w K mg base d.N d.qual d.scope A cdv A' outer s H E).nox d.code, PSs.nox ((sSs T k d.code).ps _ _ _ (good_of h ih S hr) S.kind PassesOwn.never hok.2), ?_⟩
    obtain ⟨φ, out, S0, as, r, S', R, hv, z, q⟩ := q
    rw [hcall] at z
    obtain ⟨hl, o, eo, hr'⟩ := runF_inv z
    obtain ⟨R1, no⟩ := R.enter (N := d.N) hv
    refine ⟨φ, out, _, S0, o, R1, eo, ?_⟩
    have t0 : Stp φ [] [] H φ (env0 d.N.length as) (start d.N vs) H := ⟨fun _ _ e => e, fun _ h => .inl h, fun _ _ e _ _ => e, fun b h => (no b h).elim, fun _ h => h⟩
    rcases hr' with rfl | ⟨ρ, rfl, hr1⟩
    · intro v H' φ' p
      have p' := p.trans t0
      exact q v H' φ' ⟨p'.stp, p'.rel, p'.val⟩
    · intro σ' H' φ' t R'
      obtain ⟨R2, own⟩ := R'.leave
      have st : Stp φ [] [] H φ' [] [] H' := (t0.trans t).trans (own_stp own)
      refine q .non H' φ' ⟨st, R2, ?_⟩
      have hr1' : r = .fz .non := hr1
      rw [hr1']
      exact .non
/-- all defs keep their promises -/
theorem fns_ok (h : Hd T ds ms nas K mg) {P : Program} {w : World} {base : Heap} : ∀ (k : Nat), ∀ j, j ≤ k → AllOk T ds K mg P w base j := by
  have zero : AllOk T ds K mg P w base 0 := fun d hd A fd F l => by
    refine ⟨fun vs H Q E q => ?_, fun A outer s H args us vs Q E _ _ _ _ q => ?_⟩
    · obtain ⟨_, _, _, _, _, _, _, _, z, _⟩ := q
      cases z
    · obtain ⟨_, _, _, _, _, _, _, _, z, _⟩ := q
      cases z
  intro k
  induction k with
  | zero =>
    intro j hj
    have : j = 0 := Nat.le_zero.mp hj
    subst this
    exact zero
  | succ k ih =>
    intro j hj
    rcases Nat.lt_or_ge j (k + 1) with z | z
    · exact ih j (by omega)
    · have : j = k + 1 := by omega
      subst this
      exact fun d hd A fd F l => fn_ok1 h ih hd F
end
end Sk

/-! Sk17: a law's head. -/
namespace Sk
open PySem PySem.Spec PyProof.Rows L2

/-! ### the module's constants -/
mutual
def repB (K : PySem.W.Frag) : D → Value → Bool
  | .non, u => (match u with
    | .none => true
    | _ => false)
  | .bl b, u => (match u with
    | .bool c => b == c
    | _ => false)
  | .int i, u => (match u with
    | .int j _ => decide (i = j)
    | _ => false)
  | .str x, u => (match u with
    | .str y _ => decide (x = y)
    | _ => false)
  | .tup ds, u => (match u with
    | .ref a => (match K.lookup a with
      | some ⟨.type c, _, .seq its _, _⟩ => decide (c = "tuple") && (decide (its.size ≤ sizeLine) && repBs K ds its.toList)
      | _ => false)
    | _ => false)
  | .lst ds, u => (match u with
    | .ref a => (match K.lookup a with
      | some ⟨.type c, none, .seq its _, _⟩ => decide (c = "list") && (decide (its.size ≤ sizeLine) && repBs K ds its.toList)
      | _ => false)
    | _ => false)
  | _, _ => false
def repBs (K : PySem.W.Frag) : List D → List Value → Bool
  | [], us => us.isEmpty
  | d :: ds, us => (match us with
    | u :: us => repB K d u && repBs K ds us
    | [] => false)
end
theorem ktp_of {K : PySem.W.Frag} {a : Addr} {c : String} {od : Option Addr} {its : Array Value} {n : Nat} {sl : Array (Option Value)} {vs : List V} (q : K.lookup a = some ⟨.type c, od, .seq its n, sl⟩) (hc : decide (c = "tuple") = true) (hz : decide (its.size ≤ sizeLine) = true) (r : Vals vs its.toList) : KTp K a vs := by
  have e : c = "tuple" := of_decide_eq_true hc
  exact ⟨_, its, n, q, congrArg Value.type e, rfl, of_decide_eq_true hz, r⟩
theorem kls_of {K : PySem.W.Frag} {a : Addr} {c : String} {its : Array Value} {n : Nat} {sl : Array (Option Value)} {vs : List V} (q : K.lookup a = some ⟨.type c, none, .seq its n, sl⟩) (hc : decide (c = "list") = true) (hz : decide (its.size ≤ sizeLine) = true) (r : Vals vs its.toList) : KLs K a vs := by
  have e : c = "list" := of_decide_eq_true hc
  exact ⟨_, its, n, q, congrArg Value.type e, rfl, rfl, of_decide_eq_true hz, r⟩
theorem tup_look {K : PySem.W.Frag} {ds : List D} {u : Value} (h : repB K (.tup ds) u = true) : ∃ a c od its n sl, u = .ref a ∧ K.lookup a = some ⟨.type c, od, .seq its n, sl⟩ ∧ decide (c = "tuple") = true ∧ decide (its.size ≤ sizeLine) = true ∧ repBs K ds its.toList = true := by
  unfold repB at h
  split at h
  · split at h
    · rename_i e
      rw [Bool.and_eq_true, Bool.and_eq_true] at h
      exact ⟨_, _, _, _, _, _, rfl, e, h.1, h.2.1, h.2.2⟩
    · cases h
  · cases h
theorem lst_look {K : PySem.W.Frag} {ds : List D} {u : Value} (h : repB K (.lst ds) u = true) : ∃ a c its n sl, u = .ref a ∧ K.lookup a = some ⟨.type c, none, .seq its n, sl⟩ ∧ decide (c = "list") = true ∧ decide (its.size ≤ sizeLine) = true ∧ repBs K ds its.toList = true := by
  unfold repB at h
  split at h
  · split at h
    · rename_i e
      rw [Bool.and_eq_true, Bool.and_eq_true] at h
      exact ⟨_, _, _, _, _, rfl, e, h.1, h.2.1, h.2.2⟩
    · cases h
  · cases h
section
variable {K : PySem.W.Frag} (mg : Str → Option Value)
mutual
theorem repB_ok : ∀ (d : D) (u : Value), repB K d u = true → ∃ v, RelV v u ∧ ∀ φ ex H, RepV K mg φ ex H d v
  | .non, u, h => by
    cases u <;> first
      | exact ⟨.non, rfl, fun _ _ _ => .non⟩
      | cases h
  | .bl b, u, h => by
    cases u with
    | bool c =>
      have e : (b == c) = true := h
      rw [beq_iff_eq] at e
      subst e
      exact ⟨.bl b, rfl, fun _ _ _ => .bl b⟩
    | _ => cases h
  | .int i, u, h => by
    cases u with
    | int j t =>
      have e : i = j := of_decide_eq_true h
      subst e
      exact ⟨.int i, ⟨t, rfl⟩, fun _ _ _ => .int i⟩
    | _ => cases h
  | .str x, u, h => by
    cases u with
    | str y t =>
      have e : x = y := of_decide_eq_true h
      subst e
      exact ⟨.str x, ⟨t, rfl⟩, fun _ _ _ => .str x⟩
    | _ => cases h
  | .tup ds, u, h => by
    obtain ⟨a, c, od, its, n, sl, rfl, e, h1, h2, h3⟩ := tup_look h
    obtain ⟨vs, r, hr⟩ := repBs_ok ds its.toList h3
    exact ⟨.ref a, rfl, fun φ ex H => .tup (.inr (ktp_of e h1 h2 r)) (hr φ ex H)⟩
  | .lst ds, u, h => by
    obtain ⟨a, c, its, n, sl, rfl, e, h1, h2, h3⟩ := lst_look h
    obtain ⟨vs, r, hr⟩ := repBs_ok ds its.toList h3
    exact ⟨.ref a, rfl, fun φ ex H => .lst (.inr (kls_of e h1 h2 r)) (hr φ ex H)⟩
  | .dct _, _, h => by cases h
  | .ref _, _, h => by cases h
  | .fn _, _, h => by cases h
theorem repBs_ok : ∀ (ds : List D) (us : List Value), repBs K ds us = true → ∃ vs, Vals vs us ∧ ∀ φ ex H, RepVs K mg φ ex H ds vs
  | [], us, h => by
    have e : us = [] := List.isEmpty_iff.mp h
    subst e
    exact ⟨[], .nil, fun _ _ _ => .nil⟩
  | d :: ds, us, h => by
    cases us with
    | nil => cases h
    | cons u us =>
      have h' : (repB K d u && repBs K ds us) = true := h
      rw [Bool.and_eq_true] at h'
      obtain ⟨v, r, hr⟩ := repB_ok d u h'.1
      obtain ⟨vs, s, hs⟩ := repBs_ok ds us h'.2
      exact ⟨v :: vs, .cons r s, fun φ ex H => .cons (hr φ ex H) (hs φ ex H)⟩
end
end
def conOk (K : PySem.W.Frag) (c : Str × D) : Bool := match PySem.W.nsIn K mainGlobals c.1 with
  | some (some u) => repB K c.2 u
  | _ => false
def tabG (cs : List (Str × D)) (x : Str) : Option D := (cs.find? fun c => decide (c.1 = x)).map (·.2)

/-! ### the Hook -/
abbrev AlC : Type := He.AlD × Bool
def obsC (fa : List He.Fa) (fn : List He.DefD) (cs : List (Str × D)) (K : PySem.W.Frag) : AlC := (He.obsD fa fn K, cs.all (conOk K))
def obsCG (n : Nat) (fa : List He.Fa) (fn : List He.DefD) (cs : List (Str × D)) (g : Addr → Option Obj) : AlC := obsC fa fn cs (He.frG g (He.asD g n))
def SaysC (fa : List He.Fa) (fn : List He.DefD) (cs : List (Str × D)) (K : PySem.W.Frag) : Prop := obsC fa fn cs K = (He.valD fn, true)
def hookC (n : Nat) (fa : List He.Fa) (fn : List He.DefD) (cs : List (Str × D)) : PySem.W.Hook where
  α := AlC
  obs := fun s => obsCG n fa fn cs s.heap.get?
  val := fun _ => (He.valD fn, true)
  says := fun _ h => ∃ K : PySem.W.Frag, K.In h ∧ SaysC fa fn cs K
  of := fun _ _ e => ⟨_, He.frG_in, e⟩
  keeps := fun _ _ _ ⟨K, hK, c⟩ k => ⟨K, PySem.W.Frag.In.keeps hK k, c⟩
theorem obsCG_eq {n : Nat} {fa : List He.Fa} {fn : List He.DefD} {cs : List (Str × D)} {g : Addr → Option Obj} {s : Shared} (h : ∀ a, g a = s.heap.get? a) : obsCG n fa fn cs g = (hookC n fa fn cs).obs s := by
  have e : g = s.heap.get? := funext h
  rw [e] <;> rfl

/-! ### from the head to the defs -/
def Dn.def_ (d : Dn) : He.DefD := ⟨(match d.cls with
  | none => (d.name, none)
  | some c => (c, some d.py)), d.py, d.qual, d.args, d.body, d.scope, [], []⟩
def Dn.fa (d : Dn) : List He.Fa := match d.cls with
  | none => [.glo d.name]
  | some c => [.glo c, .cls c, .meth c d.py]
def faOf (ds : List Dn) (ms : List Mkd) (nas : List (Str × Str)) : List He.Fa := ds.flatMap Dn.fa ++ (ms.flatMap (fun p => [.glo p.1, .mkr p.1]) ++ (nas.flatMap (fun p => [.glo p.1, .cls p.1, .noat p.1 p.2]) ++ bNames.map .free))
def mkT (ds : List Dn) (ms : List Mkd) (nas : List (Str × Str)) (cs : List (Str × D)) : Tab := ⟨tabG cs, tabF ds ms, tabM ds nas⟩
/-- what is seen at the tables -/
def tabOk (ds : List Dn) (ms : List Mkd) : Bool := (ds.all fun d => decide ((ds.find? fun e => decide (e.name = d.name)).map (fun e => (e.cls, e.py)) = some (d.cls, d.py))) && ms.all fun p => ds.any fun d => decide (d.name = p.2.2 ∧ d.cls = some p.1 ∧ d.py = "__init__")
theorem hd_of {ds : List Dn} {ms : List Mkd} {nas : List (Str × Str)} {cs : List (Str × D)} {K : PySem.W.Frag} {h : Heap} {mg : Str → Option Value} (X : K.In h) (G : h.Ns mainGlobals mg) (c : SaysC (faOf ds ms nas) (ds.map Dn.def_) cs K) (ok : ∀ d ∈ ds, d.ok = true ∧ d.Bd)
    (uq : ∀ d ∈ ds, tabF ds ms d.name = some d.fn) (mk : ∀ p ∈ ms, ∃ d ∈ ds, d.name = p.2.2 ∧ d.cls = some p.1 ∧ d.py = "__init__") : Hd (mkT ds ms nas cs) ds ms nas K mg := by
  have c1 : He.SaysD (faOf ds ms nas) (ds.map Dn.def_) K := congrArg (fun z : AlC => z.1) c
  have c2 : cs.all (conOk K) = true := congrArg (fun z : AlC => z.2) c
  refine ⟨rfl, rfl, ok, fun d hd => ?_, fun p hp => ?_, fun p hp => ?_, uq, fun x hx => ?_, fun x d e => ?_⟩
  · have fm : ∀ f ∈ d.fa, f.ok K = true := fun f hf => c1.facts (List.mem_append_left _ (List.mem_flatMap.mpr ⟨d, hd, hf⟩))
    obtain ⟨fd, F⟩ := c1.defs (d := d.def_) (List.mem_map.mpr ⟨d, hd, rfl⟩)
    refine ⟨_, fd, ?_, F⟩
    unfold Dn.loc
    unfold Dn.fa at fm
    unfold Dn.def_ He.fAd
    cases hc : d.cls with
    | none =>
      rw [hc] at fm
      exact He.glo_ok X G (fm _ List.mem_cons_self)
    | some c =>
      rw [hc] at fm
      exact ⟨He.glo_ok X G (fm _ List.mem_cons_self), He.cls_ok (fm (.cls c) (by simp)), He.meth_ok (fm (.meth c d.py) (by simp)), rfl⟩
  · have fm : ∀ f ∈ ([.glo p.1, .cls p.1, .noat p.1 p.2] : List He.Fa), f.ok K = true := fun f hf => c1.facts (List.mem_append_right _ (List.mem_append_right _ (List.mem_append_left _ (List.mem_flatMap.mpr ⟨p, hp, hf⟩))))
    exact ⟨He.glo_ok X G (fm _ List.mem_cons_self), He.cls_ok (fm (.cls p.1) (by simp)), He.noat_ok (fm (.noat p.1 p.2) (by simp))⟩
  · have fm : ∀ f ∈ ([.glo p.1, .mkr p.1] : List He.Fa), f.ok K = true := fun f hf => c1.facts (List.mem_append_right _ (List.mem_append_left _ (List.mem_flatMap.mpr ⟨p, hp, hf⟩)))
    obtain ⟨d, hd, e1, e2, e3⟩ := mk p hp
    exact ⟨He.glo_ok X G (fm _ List.mem_cons_self), He.mkr_ok (fm (.mkr p.1) (by simp)), d, hd, e1, e2, e3, uq d hd⟩
  · exact He.free_ok X G (c1.facts (List.mem_append_right _ (List.mem_append_right _ (List.mem_append_right _ (List.mem_map.mpr ⟨x, hx, rfl⟩)))))
  · have e' : (cs.find? fun c => decide (c.1 = x)).map (·.2) = some d := e
    simp only [Option.map_eq_some_iff] at e'
    obtain ⟨c, e1, e2⟩ := e'
    have hc := List.all_eq_true.mp c2 c (List.mem_of_find?_eq_some e1)
    have hx : c.1 = x := by have z := List.find?_some e1; exact of_decide_eq_true z
    unfold conOk at hc
    split at hc
    · rename_i u hu
      rw [hx] at hu
      rw [e2] at hc
      obtain ⟨v, r, hr⟩ := repB_ok mg d u hc
      exact ⟨u, v, PySem.W.mg_of X G hu, r, hr⟩
    · cases hc
/-- the law's call -/
def Law (T : Tab) (k : Nat) : Prop := ∀ ns : List Int, ns.length ≤ 63 → ∃ S', callK T.G T.F T.M k "law" [.lst (ns.map .int)] [] = some (.fz (.bl true), S')
theorem law_sp {T : Tab} {k : Nat} {K : PySem.W.Frag} {mg : Str → Option Value} (L : Law T k) (H : Hp) (a : Addr) (ns : List Int) (hl : ns.length ≤ 63) (hS : SqL K H a (ns.map V.int)) :
    spF T k "law" K mg [.ref a] H (fun v _ => v = .bl true) fun _ _ _ => False := by
  obtain ⟨S', e⟩ := L ns hl
  have fz : FzL K (exc [] (fun _ => False) [] []) H a (ns.map V.int) := hS.elim (fun h => .inl ⟨h, fun z => by
    rcases z with z | z | ⟨i, d, z, _⟩
    · cases z
    · exact z
    · cases z⟩) .inr
  refine ⟨[], fun _ => False, [], [.lst (ns.map .int)], .fz (.bl true), S', ⟨rfl, fun i d e => (by cases e), fun i d e => (by cases e), fun i j a d e z => (by cases z), fun n o e => (by cases e), rfl, List.nodup_nil, fun a z => (by cases z), fun a z => z.elim⟩, .cons (.lst fz (RepVs.ints ns)) .nil, e, fun v H' φ' p => ?_⟩
  exact RepV.toBl p.val
end Sk

/-! Sk18: what is to be shown of an evaluation, form by form. -/
namespace Sk
open PySem PySem.Spec
open L2 (ixN)

def sat {α : Type} (m : Option α) (Q : α → Prop) : Prop := ∃ a, m = some a ∧ Q a
theorem sat_some {α : Type} {a : α} {Q : α → Prop} : sat (some a) Q ↔ Q a := ⟨fun ⟨_, e, q⟩ => (by cases e; exact q), fun q => ⟨a, rfl, q⟩⟩
theorem sat_none {α : Type} {Q : α → Prop} : sat (none : Option α) Q ↔ False := ⟨fun ⟨_, e, _⟩ => (by cases e), fun z => False.elim z⟩
theorem sat_mono {α : Type} {m : Option α} {P Q : α → Prop} (h : sat m P) (k : ∀ a, P a → Q a) : sat m Q := let ⟨a, e, p⟩ := h; ⟨a, e, k a p⟩
theorem sat_bnd {α β : Type} {m : Option (α × Env' × Sto)} {f : α → Env' → Sto → Option β} {Q : β → Prop} : sat (bnd m f) Q ↔ sat m fun r => sat (f r.1 r.2.1 r.2.2) Q := by
  cases m with
  | none => exact Iff.trans sat_none sat_none.symm
  | some r => exact (sat_some (a := r) (Q := fun r => sat (f r.1 r.2.1 r.2.2) Q)).symm
theorem sat_congr {α : Type} {m : Option α} {P Q : α → Prop} (h : ∀ a, P a ↔ Q a) : sat m P ↔ sat m Q := ⟨fun z => sat_mono z fun a => (h a).mp, fun z => sat_mono z fun a => (h a).mpr⟩
theorem sat_obd {α β : Type} {m : Option α} {f : α → Option β} {Q : β → Prop} : sat (obd m f) Q ↔ sat m fun a => sat (f a) Q := by
  cases m with
  | none => exact Iff.trans sat_none sat_none.symm
  | some r => exact (sat_some (a := r) (Q := fun r => sat (f r) Q)).symm
def ob {α : Type} (m : Option α) (Q : α → Prop) : Prop := sat m Q
@[simp] theorem ob_some {α : Type} {a : α} {Q : α → Prop} : ob (some a) Q ↔ Q a := sat_some
@[simp] theorem ob_none {α : Type} {Q : α → Prop} : ob (none : Option α) Q ↔ False := sat_none
theorem ob_eq {α : Type} {m : Option α} {a : α} {Q : α → Prop} (e : m = some a) (q : Q a) : ob m Q := ⟨a, e, q⟩
/-- the datum of an operand; its truth; its int -/
def dv (o : Op) (Q : D → Prop) : Prop := ob o.d Q
@[simp] theorem dv_fz {d : D} {Q : D → Prop} : dv (.fz d) Q ↔ Q d := sat_some
@[simp] theorem dv_fr {d : D} {Q : D → Prop} : dv (.fr d) Q ↔ Q d := sat_some
def asB : Op → (Bool → Prop) → Prop
  | .fz (.bl b), Q => Q b
  | _, _ => False
@[simp] theorem asB_bl {b : Bool} {Q : Bool → Prop} : asB (.fz (.bl b)) Q ↔ Q b := Iff.rfl
def asI : Op → (Int → Prop) → Prop
  | .fz (.int b), Q => Q b
  | _, _ => False
@[simp] theorem asI_int {b : Int} {Q : Int → Prop} : asI (.fz (.int b)) Q ↔ Q b := Iff.rfl
def asL : D → (List D → Prop) → Prop
  | .lst b, Q => Q b
  | _, _ => False
@[simp] theorem asL_lst {b : List D} {Q : List D → Prop} : asL (.lst b) Q ↔ Q b := Iff.rfl
def asT : D → (List D → Prop) → Prop
  | .tup b, Q => Q b
  | _, _ => False
@[simp] theorem asT_tup {b : List D} {Q : List D → Prop} : asT (.tup b) Q ↔ Q b := Iff.rfl
def slV : Option Sl → (D → Prop) → Prop
  | some (.va d), Q => Q d
  | _, _ => False
@[simp] theorem slV_va {d : D} {Q : D → Prop} : slV (some (.va d)) Q ↔ Q d := Iff.rfl
def slO : Option Sl → (D → Prop) → Prop
  | some (.ow d), Q => Q d
  | _, _ => False
@[simp] theorem slO_ow {d : D} {Q : D → Prop} : slO (some (.ow d)) Q ↔ Q d := Iff.rfl
def slR (i : Nat) : Option Sl → (Op → Prop) → Prop
  | some (.va d), Q => Q (.fz d)
  | some (.ow _), Q => Q (.sl i)
  | _, _ => False
@[simp] theorem slR_va {i : Nat} {d : D} {Q : Op → Prop} : slR i (some (.va d)) Q ↔ Q (.fz d) := Iff.rfl
@[simp] theorem slR_ow {i : Nat} {d : D} {Q : Op → Prop} : slR i (some (.ow d)) Q ↔ Q (.sl i) := Iff.rfl
def slF (i : Nat) (ρ : Env') : Option Sl → (Env' → Prop) → Prop
  | some (.ow d), Q => Q (ρ.set i (.va d))
  | some (.va _), Q => Q ρ
  | _, _ => False
@[simp] theorem slF_va {i : Nat} {ρ : Env'} {d : D} {Q : Env' → Prop} : slF i ρ (some (.va d)) Q ↔ Q ρ := Iff.rfl
@[simp] theorem slF_ow {i : Nat} {ρ : Env'} {d : D} {Q : Env' → Prop} : slF i ρ (some (.ow d)) Q ↔ Q (ρ.set i (.va d)) := Iff.rfl

section
variable (T : Tab) (k : Nat)
def WE (e : CE) (ρ : Env') (S : Sto) (Q : Op → Env' → Sto → Prop) : Prop := sat (ev T k e ρ S) fun r => Q r.1 r.2.1 r.2.2
def WL (e : List CE) (ρ : Env') (S : Sto) (Q : List D → Env' → Sto → Prop) : Prop := sat (evs T k e ρ S) fun r => Q r.1 r.2.1 r.2.2
def WO (e : Option CE) (ρ : Env') (S : Sto) (Q : Option Int → Env' → Sto → Prop) : Prop := sat (evO T.G (callK T.G T.F T.M k) T.M e ρ S) fun r => Q r.1 r.2.1 r.2.2
def WC (e : List CE) (ρ : Env') (S : Sto) (Q : Bool → Env' → Sto → Prop) : Prop := sat (evc T k e ρ S) fun r => Q r.1 r.2.1 r.2.2
def WI (e : It') (ρ : Env') (S : Sto) (Q : List D → Env' → Sto → Prop) : Prop := sat (evi T k e ρ S) fun r => Q r.1 r.2.1 r.2.2
def WS (e : CS) (ρ : Env') (S : Sto) (Q : Out → Prop) : Prop := sat (evst T k e ρ S) Q
def WSs (e : List CS) (ρ : Env') (S : Sto) (Q : Out → Prop) : Prop := sat (evsts T k e ρ S) Q
def WF (f : Str) (ds : List D) (S : Sto) (Q : Op → Sto → Prop) : Prop := sat (callK T.G T.F T.M k f ds S) fun r => Q r.1 r.2
def WLc (tg : Tg) (elt : CE) (cs : List CE) (ds acc : List D) (ρ : Env') (S : Sto) (Q : List D → Env' → Sto → Prop) : Prop := sat (lcL tg (lcOne T k elt cs) ds acc ρ S) fun r => Q r.1 r.2.1 r.2.2
def WFor (tg : Tg) (b : List CS) (ds : List D) (ρ : Env') (S : Sto) (Q : Out → Prop) : Prop := sat (forL tg (fun ρ S => evsts T k b ρ S) ds ρ S) Q
def WWh (c : CE) (b : List CS) (n : Nat) (ρ : Env') (S : Sto) (Q : Out → Prop) : Prop := sat (whlL (fun ρ S => evc T k [c] ρ S) (fun ρ S => evsts T k b ρ S) n ρ S) Q
end
section
variable {T : Tab} {k : Nat} {a b c : CE} {es : List CE} {ρ : Env'} {S : Sto} {Q : Op → Env' → Sto → Prop} {P : Out → Prop}
theorem WE.mono {Q' : Op → Env' → Sto → Prop} (h : WE T k a ρ S Q) (m : ∀ o ρ S, Q o ρ S → Q' o ρ S) : WE T k a ρ S Q' := sat_mono h fun _ => m _ _ _
theorem WF.mono {f : Str} {ds : List D} {Q Q' : Op → Sto → Prop} (h : WF T k f ds S Q) (m : ∀ o S, Q o S → Q' o S) : WF T k f ds S Q' := sat_mono h fun _ => m _ _
theorem WS.mono {s : CS} {P' : Out → Prop} (h : WS T k s ρ S P) (m : ∀ o, P o → P' o) : WS T k s ρ S P' := sat_mono h m
theorem WSs.mono {s : List CS} {P' : Out → Prop} (h : WSs T k s ρ S P) (m : ∀ o, P o → P' o) : WSs T k s ρ S P' := sat_mono h m
theorem WFor.mono {tg : Tg} {s : List CS} {ds : List D} {P' : Out → Prop} (h : WFor T k tg s ds ρ S P) (m : ∀ o, P o → P' o) : WFor T k tg s ds ρ S P' := sat_mono h m
theorem WLc.mono {tg : Tg} {elt : CE} {cs : List CE} {ds acc : List D} {Q Q' : List D → Env' → Sto → Prop} (h : WLc T k tg elt cs ds acc ρ S Q) (m : ∀ o ρ S, Q o ρ S → Q' o ρ S) : WLc T k tg elt cs ds acc ρ S Q' := sat_mono h fun _ => m _ _ _

/-! ### expressions -/
@[simp] theorem we_var {i : Nat} : WE T k (.var i) ρ S Q ↔ slV ρ[i]? fun d => Q (.fz d) ρ S := by
  unfold WE
  simp only [ev, evE]
  split
  · rename_i h; rw [h]; exact sat_some
  · rename_i h
    rw [sat_none]
    cases e : ρ[i]? with
    | none => exact Iff.rfl
    | some s =>
      cases s with
      | va d => exact absurd e (h d)
      | _ => exact Iff.rfl
@[simp] theorem we_rd {i : Nat} : WE T k (.rd i) ρ S Q ↔ slR i ρ[i]? fun o => Q o ρ S := by
  unfold WE
  simp only [ev, evE]
  split
  · rename_i h; rw [h]; exact sat_some
  · rename_i h; rw [h]; exact sat_some
  · rename_i h1 h2
    rw [sat_none]
    cases e : ρ[i]? with
    | none => exact Iff.rfl
    | some s =>
      cases s with
      | va d => exact absurd e (h2 d)
      | ow d => exact absurd e (h1 d)
      | no => exact Iff.rfl
@[simp] theorem we_mv {i : Nat} : WE T k (.mv i) ρ S Q ↔ slO ρ[i]? fun d => Q (.fr d) (ρ.set i .no) S := by
  unfold WE
  simp only [ev, evE]
  split
  · rename_i h; rw [h]; exact sat_some
  · rename_i h
    rw [sat_none]
    cases e : ρ[i]? with
    | none => exact Iff.rfl
    | some s =>
      cases s with
      | ow d => exact absurd e (h d)
      | _ => exact Iff.rfl
@[simp] theorem we_non : WE T k .non ρ S Q ↔ Q (.fz .non) ρ S := sat_some
@[simp] theorem we_bl {v : Bool} : WE T k (.bl v) ρ S Q ↔ Q (.fz (.bl v)) ρ S := sat_some
@[simp] theorem we_int {v : Int} : WE T k (.int v) ρ S Q ↔ Q (.fz (.int v)) ρ S := sat_some
@[simp] theorem we_str {v : Str} : WE T k (.str v) ρ S Q ↔ Q (.fz (.str v)) ρ S := sat_some
@[simp] theorem we_glo {x : Str} : WE T k (.glo x) ρ S Q ↔ ob (T.G x) fun d => Q (.fz d) ρ S := by
  unfold WE ob
  simp only [ev, evE, sat_obd, sat_some]
@[simp] theorem we_tup : WE T k (.tup es) ρ S Q ↔ WL T k es ρ S fun ds ρ S => ds.length ≤ sizeLine ∧ Q (.fz (.tup ds)) ρ S := by
  unfold WE WL
  simp only [ev, evE, sat_bnd]
  refine ⟨fun h => sat_mono h fun r z => ?_, fun h => sat_mono h fun r z => ?_⟩
  · split at z
    · rename_i hl; exact ⟨hl, (by have z := sat_some.mp z; exact z)⟩
    · exact (sat_none.mp z).elim
  · rw [if_pos z.1]; exact sat_some.mpr z.2
@[simp] theorem we_lst : WE T k (.lst es) ρ S Q ↔ WL T k es ρ S fun ds ρ S => ds.length ≤ sizeLine ∧ Q (.fr (.lst ds)) ρ S := by
  unfold WE WL
  simp only [ev, evE, sat_bnd]
  refine ⟨fun h => sat_mono h fun r z => ?_, fun h => sat_mono h fun r z => ?_⟩
  · split at z
    · rename_i hl; exact ⟨hl, (by have z := sat_some.mp z; exact z)⟩
    · exact (sat_none.mp z).elim
  · rw [if_pos z.1]; exact sat_some.mpr z.2
@[simp] theorem we_dis : WE T k (.dis es) ρ S Q ↔ WL T k es ρ S fun ds ρ S => ob (pairUp ds) fun kvs => (kvs.length ≤ 15 ∧ (kvs.all fun p => isKey p.1) = true) ∧ Q (.fr (.dct (kvs.foldl (fun acc p => dput acc p.1 p.2) []))) ρ S := by
  unfold WE WL ob
  simp only [ev, evE, sat_bnd, sat_obd]
  refine ⟨fun h => sat_mono h fun r z => sat_mono z fun kvs z => ?_, fun h => sat_mono h fun r z => sat_mono z fun kvs z => ?_⟩
  · split at z
    · rename_i hl; exact ⟨hl, (by have z := sat_some.mp z; exact z)⟩
    · exact (sat_none.mp z).elim
  · rw [if_pos z.1]; exact sat_some.mpr z.2
@[simp] theorem we_bop {o : BO} : WE T k (.bop o a b) ρ S Q ↔ WE T k a ρ S fun x ρ S => WE T k b ρ S fun y ρ S => ob (cont ρ S x) fun dx => ob (cont ρ S y) fun dy => ob (bopD o dx dy) fun r => Q r ρ S := by
  unfold WE ob
  simp only [ev, evE, sat_bnd, sat_obd, sat_some]
@[simp] theorem we_neg : WE T k (.neg a) ρ S Q ↔ WE T k a ρ S fun x ρ S => asI x fun i => Q (.fz (.int (-i))) ρ S := by
  unfold WE
  simp only [ev, evE, sat_bnd]
  refine ⟨fun h => sat_mono h fun r z => ?_, fun h => sat_mono h fun r z => ?_⟩
  · split at z
    · rename_i e; rw [e]; exact (by have z := sat_some.mp z; exact z)
    · exact (sat_none.mp z).elim
  · obtain ⟨o, ρ, S⟩ := r
    cases o with
    | fz d => cases d <;> first
      | exact sat_some.mpr z
      | exact z.elim
    | _ => exact z.elim
@[simp] theorem we_no : WE T k (.no a) ρ S Q ↔ WE T k a ρ S fun x ρ S => asB x fun i => Q (.fz (.bl (!i))) ρ S := by
  unfold WE
  simp only [ev, evE, sat_bnd]
  refine ⟨fun h => sat_mono h fun r z => ?_, fun h => sat_mono h fun r z => ?_⟩
  · split at z
    · rename_i e; rw [e]; exact (by have z := sat_some.mp z; exact z)
    · exact (sat_none.mp z).elim
  · obtain ⟨o, ρ, S⟩ := r
    cases o with
    | fz d => cases d <;> first
      | exact sat_some.mpr z
      | exact z.elim
    | _ => exact z.elim
@[simp] theorem we_cmp {o : CO} : WE T k (.cmp o a b) ρ S Q ↔ WE T k a ρ S fun x ρ S => WE T k b ρ S fun y ρ S => ob (look ρ S x) fun dx => ob (look ρ S y) fun dy => ob (cmpD o dx dy) fun r => Q (.fz (.bl r)) ρ S := by
  unfold WE ob
  simp only [ev, evE, sat_bnd, sat_obd, sat_some]
@[simp] theorem we_chn {o o' : CO} : WE T k (.chn o o' a b c) ρ S Q ↔ WE T k a ρ S fun x ρ S => WE T k b ρ S fun y ρ S => ob (look ρ S x) fun dx => ob (look ρ S y) fun dy => ob (cmpD o dx dy) fun r =>
    if r = true then WE T k c ρ S fun z ρ S => ob (look ρ S y) fun dy => ob (look ρ S z) fun dz => ob (cmpD o' dy dz) fun r => Q (.fz (.bl r)) ρ S else Q (.fz (.bl false)) ρ S := by
  unfold WE ob
  simp only [ev, evE, sat_bnd, sat_obd]
  refine ⟨fun h => sat_mono h fun r z => sat_mono z fun r z => sat_mono z fun r z => sat_mono z fun r z => sat_mono z fun r z => ?_, fun h => sat_mono h fun r z => sat_mono z fun r z => sat_mono z fun r z => sat_mono z fun r z => sat_mono z fun r z => ?_⟩
  · cases r
    · exact (by have z := sat_some.mp z; exact z)
    · simpa [sat_bnd, sat_obd, sat_some] using z
  · cases r
    · exact sat_some.mpr z
    · simpa [sat_bnd, sat_obd, sat_some] using z
@[simp] theorem we_and : WE T k (.and a b) ρ S Q ↔ WE T k a ρ S fun x ρ S => asB x fun v => if v = true then WE T k b ρ S Q else Q (.fz (.bl false)) ρ S := by
  unfold WE
  simp only [ev, evE, sat_bnd]
  refine sat_congr fun r => ?_
  obtain ⟨o, ρ1, S1⟩ := r
  cases o with
  | fz d =>
    cases d with
    | bl b => cases b <;> simp [asB, sat_some]
    | _ => exact sat_none
  | _ => exact sat_none
@[simp] theorem we_orr : WE T k (.orr a b) ρ S Q ↔ WE T k a ρ S fun x ρ S => asB x fun v => if v = true then Q (.fz (.bl true)) ρ S else WE T k b ρ S Q := by
  unfold WE
  simp only [ev, evE, sat_bnd]
  refine sat_congr fun r => ?_
  obtain ⟨o, ρ1, S1⟩ := r
  cases o with
  | fz d =>
    cases d with
    | bl b => cases b <;> simp [asB, sat_some]
    | _ => exact sat_none
  | _ => exact sat_none
@[simp] theorem we_ite : WE T k (.ite c a b) ρ S Q ↔ WE T k c ρ S fun x ρ S => asB x fun v => if v = true then WE T k a ρ S Q else WE T k b ρ S Q := by
  unfold WE
  simp only [ev, evE, sat_bnd]
  refine sat_congr fun r => ?_
  obtain ⟨o, ρ1, S1⟩ := r
  cases o with
  | fz d =>
    cases d with
    | bl b => cases b <;> simp [asB, sat_some]
    | _ => exact sat_none
  | _ => exact sat_none
@[simp] theorem we_sub : WE T k (.sub a b) ρ S Q ↔ WE T k a ρ S fun x ρ S => WE T k b ρ S fun y ρ S => ob (cont ρ S x) fun dx => dv y fun dy => ob (subD dx dy) fun r => Q (.fz r) ρ S := by
  unfold WE dv ob
  simp only [ev, evE, sat_bnd, sat_obd, sat_some]
@[simp] theorem we_slc {lo hi : Option CE} : WE T k (.slc a lo hi) ρ S Q ↔ WE T k a ρ S fun x ρ S => WO T k lo ρ S fun l ρ S => WO T k hi ρ S fun h ρ S => ob (cont ρ S x) fun dx => ob (slcD dx l h) fun r => Q r ρ S := by
  unfold WE WO ob
  simp only [ev, evE, sat_bnd, sat_obd, sat_some]
@[simp] theorem we_rev : WE T k (.rev a) ρ S Q ↔ WE T k a ρ S fun x ρ S => ob (cont ρ S x) fun dx => asL dx fun ds => Q (.fr (.lst ds.reverse)) ρ S := by
  unfold WE ob
  simp only [ev, evE, sat_bnd, sat_obd]
  refine sat_congr fun r => sat_congr fun d => ?_
  cases d with
  | lst ds => simp [asL, sat_some]
  | _ => exact sat_none
@[simp] theorem we_lrev : WE T k (.lrev a) ρ S Q ↔ WE T k a ρ S fun x ρ S => ob (look ρ S x) fun dx => asL dx fun ds => Q (.fr (.lst ds.reverse)) ρ S := by
  unfold WE ob
  simp only [ev, evE, sat_bnd, sat_obd]
  refine sat_congr fun r => sat_congr fun d => ?_
  cases d with
  | lst ds => simp [asL, sat_some]
  | _ => exact sat_none
@[simp] theorem we_bf {f : BF} : WE T k (.bf f a) ρ S Q ↔ WE T k a ρ S fun x ρ S => ob (look ρ S x) fun dx => ob (bfD f dx) fun r => Q r ρ S := by
  unfold WE ob
  simp only [ev, evE, sat_bnd, sat_obd, sat_some]
@[simp] theorem we_bf2 {f : BF} : WE T k (.bf2 f a b) ρ S Q ↔ WE T k a ρ S fun x ρ S => WE T k b ρ S fun y ρ S => ob (look ρ S x) fun dx => ob (look ρ S y) fun dy => ob (bf2D f dx dy) fun r => Q r ρ S := by
  unfold WE ob
  simp only [ev, evE, sat_bnd, sat_obd, sat_some]
/-- what a method leaves -/
def afterM (ρ : Env') (S : Sto) (x : Op) (Q : Op → Env' → Sto → Prop) : D × Option D → Prop
  | (r, none) => Q (.fz r) ρ S
  | (r, some d) => ob (setC ρ S x d) fun q => Q (.fz r) q.1 q.2
@[simp] theorem afterM_none {x : Op} {r : D} : afterM ρ S x Q (r, none) ↔ Q (.fz r) ρ S := Iff.rfl
@[simp] theorem afterM_some {x : Op} {r d : D} : afterM ρ S x Q (r, some d) ↔ ob (setC ρ S x d) fun q => Q (.fz r) q.1 q.2 := Iff.rfl
@[simp] theorem we_mt {m : MF} : WE T k (.mt m a es) ρ S Q ↔ WE T k a ρ S fun x ρ S => ob (cont ρ S x) fun d0 => WL T k es ρ S fun ds ρ S => ob (cont ρ S x) fun dx => tyN d0 = tyN dx ∧ ob (mtD m dx ds) fun r => afterM ρ S x Q r := by
  unfold WE WL ob
  simp only [ev, evE, sat_bnd, sat_obd]
  refine ⟨fun h => sat_mono h fun r z => sat_mono z fun d0 z => sat_mono z fun ds z => sat_mono z fun dx z => ?_, fun h => sat_mono h fun r z => sat_mono z fun d0 z => sat_mono z fun ds z => sat_mono z fun dx z => ?_⟩
  · split at z
    · rename_i ht
      refine ⟨ht, sat_mono (sat_obd.mp z) fun r z => ?_⟩
      obtain ⟨r1, r2⟩ := r
      cases r2 with
      | none => exact (by have z := sat_some.mp z; exact z)
      | some d => exact sat_mono (sat_obd.mp z) fun q z => (by have z := sat_some.mp z; exact z)
    · exact (sat_none.mp z).elim
  · rw [if_pos z.1]
    refine sat_obd.mpr (sat_mono z.2 fun r z => ?_)
    obtain ⟨r1, r2⟩ := r
    cases r2 with
    | none => exact sat_some.mpr z
    | some d => exact sat_obd.mpr (sat_mono z fun q z => sat_some.mpr z)
@[simp] theorem we_call {f : Str} : WE T k (.call f es) ρ S Q ↔ WL T k es ρ S fun ds ρ S => WF T k f ds S fun r S => Q r ρ S := by
  unfold WE WL WF
  simp only [ev, evE, sat_bnd, sat_obd, sat_some]
def asFr : Op → (D → Prop) → Prop
  | .fr d, Q => Q d
  | _, _ => False
@[simp] theorem asFr_fr {d : D} {Q : D → Prop} : asFr (.fr d) Q ↔ Q d := Iff.rfl
@[simp] theorem we_al : WE T k (.al a) ρ S Q ↔ WE T k a ρ S fun x ρ S => asFr x fun d => Q (.fz (.ref S.length)) ρ (S ++ [.da d]) := by
  unfold WE
  simp only [ev, evE, sat_bnd]
  refine sat_congr fun r => ?_
  obtain ⟨o, ρ1, S1⟩ := r
  cases o with
  | fr d => simp [asFr, sat_some]
  | _ => exact sat_none
@[simp] theorem we_lc {elt : CE} {tg : Tg} {it : It'} {cs : List CE} : WE T k (.lc elt tg it cs) ρ S Q ↔ WI T k it ρ S fun ds ρ S => noOw tg.ixs ρ = true ∧ WLc T k tg elt cs ds [] (wipeT tg.ixs ρ) S fun r ρ' S' => Q (.fr (.lst r)) (backT tg.ixs ρ ρ') S' := by
  unfold WE WI WLc
  simp only [ev, evE, sat_bnd]
  refine ⟨fun h => sat_mono h fun r z => ?_, fun h => sat_mono h fun r z => ?_⟩
  · split at z
    · rename_i hl
      have z := sat_bnd.mp z
      exact ⟨hl, sat_mono z fun r z => (by have z := sat_some.mp z; exact z)⟩
    · exact (sat_none.mp z).elim
  · rw [if_pos z.1]
    refine sat_bnd.mpr ?_
    have z := z.2
    exact sat_mono z fun r z => sat_some.mpr z
@[simp] theorem wl_nil {Q : List D → Env' → Sto → Prop} : WL T k [] ρ S Q ↔ Q [] ρ S := sat_some
@[simp] theorem wl_cons {Q : List D → Env' → Sto → Prop} : WL T k (a :: es) ρ S Q ↔ WE T k a ρ S fun x ρ S => dv x fun d => WL T k es ρ S fun ds ρ S => Q (d :: ds) ρ S := by
  unfold WE WL dv ob
  simp only [evs, evL, sat_bnd, sat_obd, sat_some]
@[simp] theorem wo_none {Q : Option Int → Env' → Sto → Prop} : WO T k none ρ S Q ↔ Q none ρ S := sat_some
@[simp] theorem wo_some {Q : Option Int → Env' → Sto → Prop} : WO T k (some a) ρ S Q ↔ WE T k a ρ S fun x ρ S => asI x fun i => Q (some i) ρ S := by
  unfold WE WO
  simp only [evO, sat_bnd]
  refine sat_congr fun r => ?_
  obtain ⟨o, ρ1, S1⟩ := r
  cases o with
  | fz d =>
    cases d with
    | int i => simp [asI, sat_some, sat_obd]
    | _ => exact sat_none
  | _ => exact sat_none
@[simp] theorem wc_nil {Q : Bool → Env' → Sto → Prop} : WC T k [] ρ S Q ↔ Q true ρ S := sat_some
@[simp] theorem wc_cons {Q : Bool → Env' → Sto → Prop} : WC T k (a :: es) ρ S Q ↔ WE T k a ρ S fun x ρ S => asB x fun v => if v = true then WC T k es ρ S Q else Q false ρ S := by
  unfold WE WC
  simp only [evc, evC, sat_bnd]
  refine sat_congr fun r => ?_
  obtain ⟨o, ρ1, S1⟩ := r
  cases o with
  | fz d =>
    cases d with
    | bl b => cases b <;> simp [asB, sat_some]
    | _ => exact sat_none
  | _ => exact sat_none
/-! ### walks -/
@[simp] theorem wi_seq {Q : List D → Env' → Sto → Prop} : WI T k (.seq a) ρ S Q ↔ WE T k a ρ S fun x ρ S => dv x fun d => ob (seqD d) fun ds => Q ds ρ S := by
  unfold WE WI dv ob
  simp only [evi, evI, sat_bnd, sat_obd, sat_some]
@[simp] theorem wi_rng {Q : List D → Env' → Sto → Prop} : WI T k (.rng a) ρ S Q ↔ WE T k a ρ S fun x ρ S => asI x fun n => ob (rngD 0 n) fun ds => Q ds ρ S := by
  unfold WE WI ob
  simp only [evi, evI, sat_bnd]
  refine sat_congr fun r => ?_
  obtain ⟨o, ρ1, S1⟩ := r
  cases o with
  | fz d =>
    cases d with
    | int i => simp [asI, sat_some, sat_obd]
    | _ => exact sat_none
  | _ => exact sat_none
@[simp] theorem wi_rng2 {Q : List D → Env' → Sto → Prop} : WI T k (.rng2 a b) ρ S Q ↔ WE T k a ρ S fun x ρ S => WE T k b ρ S fun y ρ S => asI x fun i => asI y fun j => ob (rngD i j) fun ds => Q ds ρ S := by
  unfold WE WI ob
  simp only [evi, evI, sat_bnd]
  refine ⟨fun h => sat_mono h fun r z => sat_mono z fun r' z => ?_, fun h => sat_mono h fun r z => sat_mono z fun r' z => ?_⟩
  · split at z
    · rename_i e1 e2
      rw [e1, e2]
      simp only [sat_obd, sat_some] at z
      exact z
    · exact (sat_none.mp z).elim
  · obtain ⟨o, ρ, S⟩ := r
    obtain ⟨o', ρ', S'⟩ := r'
    cases o with
    | fz d =>
      cases d with
      | int i =>
        cases o' with
        | fz d' =>
          cases d' with
          | int j =>
            simp only [sat_obd, sat_some]
            exact z
          | _ => exact False.elim z
        | _ => exact False.elim z
      | _ => exact False.elim z
    | _ => exact False.elim z
/-- an object of the store -/
def asIns (S : Sto) : Op → (Nat → Str → List (Str × D) → Prop) → Prop
  | .fz (.ref n), Q => (match S[n]? with
    | some (.ins c fs) => Q n c fs
    | _ => False)
  | _, _ => False
theorem asIns_of {S : Sto} {n : Nat} {c : Str} {fs : List (Str × D)} {Q : Nat → Str → List (Str × D) → Prop} (h : S[n]? = some (.ins c fs)) : asIns S (.fz (.ref n)) Q ↔ Q n c fs := by
  show (match S[n]? with | some (.ins c fs) => Q n c fs | _ => False) ↔ _
  rw [h]
theorem we_attr {f : Str} : WE T k (.attr a f) ρ S Q ↔ WE T k a ρ S fun x ρ S => asIns S x fun n c fs => ob (T.M c (atName f)) fun _ => ob (fs.lookup f) fun d => Q (.fz d) ρ S := by
  unfold WE ob
  simp only [ev, evE, sat_bnd]
  refine sat_congr fun r => ?_
  obtain ⟨o, ρ1, S1⟩ := r
  cases o with
  | fz d =>
    cases d with
    | ref n =>
      unfold asIns
      dsimp only
      cases h : S1[n]? with
      | none => exact sat_none
      | some o =>
        cases o with
        | da d => exact sat_none
        | ins c fs => simp only [sat_obd, sat_some]
    | _ => exact sat_none
  | _ => exact sat_none
theorem we_meth {m : Str} : WE T k (.meth m a es) ρ S Q ↔ WE T k a ρ S fun x ρ S => asIns S x fun n c fs => (fs.lookup m = none ∧ isAt m = false) ∧ ob (T.M c m) fun f => WL T k es ρ S fun ds ρ S => WF T k f (.ref n :: ds) S fun r S => Q r ρ S := by
  unfold WE WL WF ob
  simp only [ev, evE, sat_bnd]
  refine sat_congr fun r => ?_
  obtain ⟨o, ρ1, S1⟩ := r
  cases o with
  | fz d =>
    cases d with
    | ref n =>
      unfold asIns
      dsimp only
      cases h : S1[n]? with
      | none => exact sat_none
      | some o =>
        cases o with
        | da d => exact sat_none
        | ins c fs =>
          dsimp only
          by_cases z : ((fs.lookup m).isSome || isAt m) = true
          · rw [if_pos z]
            refine Iff.trans sat_none ⟨fun q => q.elim, fun q => ?_⟩
            rw [q.1.1, q.1.2] at z
            cases z
          · rw [if_neg z]
            rw [Bool.or_eq_true, not_or] at z
            have h1 : fs.lookup m = none := by
              cases hl : fs.lookup m with
              | none => rfl
              | some d => rw [hl] at z; exact absurd rfl z.1
            have h2 : isAt m = false := by simpa using z.2
            simp only [sat_obd, sat_bnd, sat_some]
            exact ⟨fun q => ⟨⟨h1, h2⟩, q⟩, fun q => q.2⟩
    | _ => exact sat_none
  | _ => exact sat_none
theorem we_new {n : Str} : WE T k (.new n es) ρ S Q ↔ WL T k es ρ S fun ds ρ S => WF T k (newName n) ds S fun r S => Q r ρ S := by
  unfold WE WL WF
  simp only [ev, evE, sat_bnd, sat_obd, sat_some]
def slP : Option Sl → Option D
  | some (.va d) => some d
  | _ => none
@[simp] theorem slP_va {d : D} : slP (some (.va d)) = some d := rfl
theorem path_var {i : Nat} {ρ : Env'} : pathD (.var i) ρ = slP ρ[i]? := by
  show (match ρ[i]? with | some (.va d) => some d | _ => none) = _
  cases ρ[i]? with
  | none => rfl
  | some s => cases s <;> rfl
def tupAt (n : Int) : Option D → Option D
  | some (.tup ds) => L2.atI ds n
  | _ => none
@[simp] theorem tupAt_some {n : Int} {ds : List D} : tupAt n (some (.tup ds)) = L2.atI ds n := rfl
theorem path_sub {n : Int} {ρ : Env'} : pathD (.sub a (.int n)) ρ = tupAt n (pathD a ρ) := by
  show (match pathD a ρ with | some (.tup ds) => L2.atI ds n | _ => none) = _
  cases pathD a ρ with
  | none => rfl
  | some s => cases s <;> rfl
theorem wi_keys {Q : List D → Env' → Sto → Prop} : WI T k (.keys a) ρ S Q ↔ ob (pathD a ρ) fun d => ob (asDct d) fun kvs => Q (kvs.map (·.1)) ρ S := by
  unfold WI ob
  simp only [evi, evI, sat_obd, sat_some]
theorem wi_items {Q : List D → Env' → Sto → Prop} : WI T k (.items a) ρ S Q ↔ ob (pathD a ρ) fun d => ob (asDct d) fun kvs => Q (kvs.map fun p => .tup [p.1, p.2]) ρ S := by
  unfold WI ob
  simp only [evi, evI, sat_obd, sat_some]
theorem wi_values {Q : List D → Env' → Sto → Prop} : WI T k (.values a) ρ S Q ↔ ob (pathD a ρ) fun d => ob (asDct d) fun kvs => Q (kvs.map (·.2)) ρ S := by
  unfold WI ob
  simp only [evi, evI, sat_obd, sat_some]
theorem wi_enu {Q : List D → Env' → Sto → Prop} : WI T k (.enu a) ρ S Q ↔ WE T k a ρ S fun x ρ S => dv x fun d => asL d fun ds => Q (enumD ds) ρ S := by
  unfold WI WE dv ob
  simp only [evi, evI, sat_bnd, sat_obd]
  refine sat_congr fun r => sat_congr fun d => ?_
  cases d with
  | lst ds => simp [asL, sat_some]
  | _ => exact sat_none
theorem wi_revd {Q : List D → Env' → Sto → Prop} : WI T k (.revd a) ρ S Q ↔ WE T k a ρ S fun x ρ S => dv x fun d => asL d fun ds => Q ds.reverse ρ S := by
  unfold WI WE dv ob
  simp only [evi, evI, sat_bnd, sat_obd]
  refine sat_congr fun r => sat_congr fun d => ?_
  cases d with
  | lst ds => simp [asL, sat_some]
  | _ => exact sat_none
/-- two things walked together -/
def zipQ : D → D → (List D → Prop) → Prop
  | .lst ds, .lst es, Q => Q (zipD ds es)
  | .tup ds, .tup es, Q => Q (zipD ds es)
  | _, _, _ => False
@[simp] theorem zipQ_lst {ds es : List D} {Q : List D → Prop} : zipQ (.lst ds) (.lst es) Q ↔ Q (zipD ds es) := Iff.rfl
@[simp] theorem zipQ_tup {ds es : List D} {Q : List D → Prop} : zipQ (.tup ds) (.tup es) Q ↔ Q (zipD ds es) := Iff.rfl
theorem wi_zip {Q : List D → Env' → Sto → Prop} : WI T k (.zip a b) ρ S Q ↔ WE T k a ρ S fun x ρ S => WE T k b ρ S fun y ρ S => dv x fun d => dv y fun e => zipQ d e fun ds => Q ds ρ S := by
  unfold WI WE dv ob
  simp only [evi, evI, sat_bnd, sat_obd]
  refine sat_congr fun r => sat_congr fun r2 => sat_congr fun d => sat_congr fun e => ?_
  cases d <;> first
    | exact sat_none
    | (cases e <;> first
        | exact sat_none
        | simp [zipQ, sat_some])
/-! ### turns -/
@[simp] theorem wlc_nil {tg : Tg} {acc : List D} {Q : List D → Env' → Sto → Prop} : WLc T k tg a es [] acc ρ S Q ↔ Q acc ρ S := sat_some
@[simp] theorem wlc_cons {tg : Tg} {d : D} {ds acc : List D} {Q : List D → Env' → Sto → Prop} : WLc T k tg a es (d :: ds) acc ρ S Q ↔ ob (bindT tg d ρ) fun ρ => WC T k es ρ S fun v ρ S =>
    if v = true then WE T k a ρ S fun x ρ S => dv x fun x => acc.length < sizeLine ∧ WLc T k tg a es ds (acc ++ [x]) (wipeT tg.ixs ρ) S Q else WLc T k tg a es ds acc (wipeT tg.ixs ρ) S Q := by
  unfold WLc ob WC WE dv
  show sat (obd (bindT tg d ρ) _) _ ↔ _
  simp only [sat_obd, sat_bnd]
  refine ⟨fun h => sat_mono h fun r z => sat_mono z fun r z => ?_, fun h => sat_mono h fun r z => sat_mono z fun r z => ?_⟩
  · obtain ⟨v, ρ1, S1⟩ := r
    cases v with
    | false =>
      rw [if_neg Bool.false_ne_true]
      exact (by have z := sat_some.mp z; exact z)
    | true =>
      rw [if_pos rfl]
      refine sat_mono (sat_bnd.mp z) fun r z => sat_mono (sat_obd.mp z) fun x z => ?_
      have z := sat_some.mp z
      dsimp only at z
      split at z
      · rename_i hl; exact ⟨hl, z⟩
      · exact (sat_none.mp z).elim
  · obtain ⟨v, ρ1, S1⟩ := r
    cases v with
    | false =>
      rw [if_neg Bool.false_ne_true] at z
      exact sat_some.mpr z
    | true =>
      rw [if_pos rfl] at z
      refine sat_bnd.mpr (sat_mono z fun r z => sat_obd.mpr (sat_mono z fun x z => ?_))
      refine sat_some.mpr ?_
      dsimp only
      rw [if_pos z.1]
      exact z.2
@[simp] theorem wfor_nil {tg : Tg} {s : List CS} : WFor T k tg s [] ρ S P ↔ P (.nx ρ S) := sat_some
/-- what a turn leads to -/
def turnQ (next : Env' → Sto → Prop) (P : Out → Prop) : Out → Prop
  | .nx ρ S => next ρ S
  | .ct ρ S => next ρ S
  | .bk ρ S => P (.nx ρ S)
  | .rt o S => P (.rt o S)
@[simp] theorem turnQ_nx {n : Env' → Sto → Prop} : turnQ n P (.nx ρ S) ↔ n ρ S := Iff.rfl
@[simp] theorem turnQ_ct {n : Env' → Sto → Prop} : turnQ n P (.ct ρ S) ↔ n ρ S := Iff.rfl
@[simp] theorem turnQ_bk {n : Env' → Sto → Prop} : turnQ n P (.bk ρ S) ↔ P (.nx ρ S) := Iff.rfl
@[simp] theorem turnQ_rt {n : Env' → Sto → Prop} {o : Op} : turnQ n P (.rt o S) ↔ P (.rt o S) := Iff.rfl
@[simp] theorem wfor_cons {tg : Tg} {s : List CS} {d : D} {ds : List D} : WFor T k tg s (d :: ds) ρ S P ↔ ob (bindT tg d ρ) fun ρ => WSs T k s ρ S (turnQ (fun ρ S => WFor T k tg s ds ρ S P) P) := by
  unfold WFor WSs ob
  show sat (obd (bindT tg d ρ) _) _ ↔ _
  simp only [sat_obd]
  refine ⟨fun h => sat_mono h fun r z => sat_mono z fun r z => ?_, fun h => sat_mono h fun r z => sat_mono z fun r z => ?_⟩
  · cases r with
    | nx _ _ => exact z
    | ct _ _ => exact z
    | bk _ _ => exact (by have z := sat_some.mp z; exact z)
    | rt _ _ => exact (by have z := sat_some.mp z; exact z)
  · cases r with
    | nx _ _ => exact z
    | ct _ _ => exact z
    | bk _ _ => exact sat_some.mpr z
    | rt _ _ => exact sat_some.mpr z
theorem wwh_succ {s : List CS} {n : Nat} : WWh T k c s (n + 1) ρ S P ↔ WC T k [c] ρ S fun v ρ S => if v = true then WSs T k s ρ S (turnQ (fun ρ S => WWh T k c s n ρ S P) P) else P (.nx ρ S) := by
  unfold WWh WSs WC
  show sat (bnd (evc T k [c] ρ S) _) _ ↔ _
  simp only [sat_bnd]
  refine ⟨fun h => sat_mono h fun r z => ?_, fun h => sat_mono h fun r z => ?_⟩
  · obtain ⟨v, ρ1, S1⟩ := r
    cases v with
    | false =>
      rw [if_neg Bool.false_ne_true]
      exact (by have z := sat_some.mp z; exact z)
    | true =>
      rw [if_pos rfl]
      refine sat_mono (sat_obd.mp z) fun r z => ?_
      cases r with
      | nx _ _ => exact z
      | ct _ _ => exact z
      | bk _ _ => exact (by have z := sat_some.mp z; exact z)
      | rt _ _ => exact (by have z := sat_some.mp z; exact z)
  · obtain ⟨v, ρ1, S1⟩ := r
    cases v with
    | false =>
      rw [if_neg Bool.false_ne_true] at z
      exact sat_some.mpr z
    | true =>
      rw [if_pos rfl] at z
      refine sat_obd.mpr (sat_mono z fun r z => ?_)
      cases r with
      | nx _ _ => exact z
      | ct _ _ => exact z
      | bk _ _ => exact sat_some.mpr z
      | rt _ _ => exact sat_some.mpr z
/-! ### statements -/
@[simp] theorem ws_asg {i : Nat} : WS T k (.asg i a) ρ S P ↔ WE T k a ρ S fun x ρ S => dv x fun d => P (.nx (ρ.set i (.va d)) S) := by
  unfold WS WE dv ob
  simp only [evst, evS, sat_bnd, sat_obd, sat_some]
@[simp] theorem ws_asgO {i : Nat} : WS T k (.asgO i a) ρ S P ↔ WE T k a ρ S fun x ρ S => asFr x fun d => P (.nx (ρ.set i (.ow d)) S) := by
  unfold WS WE
  simp only [evst, evS, sat_bnd]
  refine sat_congr fun r => ?_
  obtain ⟨o, ρ1, S1⟩ := r
  cases o with
  | fr d => simp [asFr, sat_some]
  | _ => exact sat_none
@[simp] theorem ws_asgT {is : List Nat} : WS T k (.asgT is a) ρ S P ↔ WE T k a ρ S fun x ρ S => dv x fun d => asT d fun ds => ob (setAll is ds ρ) fun ρ => P (.nx ρ S) := by
  unfold WS WE dv ob
  simp only [evst, evS, sat_bnd, sat_obd]
  refine sat_congr fun r => sat_congr fun d => ?_
  cases d with
  | tup ds => simp [asT, sat_some, sat_obd, ob]
  | _ => exact sat_none
@[simp] theorem ws_asgP {i j : Nat} : WS T k (.asgP i j a b) ρ S P ↔ WE T k a ρ S fun x ρ S => dv x fun x => WE T k b ρ S fun y ρ S => dv y fun y => P (.nx ((ρ.set i (.va x)).set j (.va y)) S) := by
  unfold WS WE dv ob
  simp only [evst, evS, evL, sat_bnd, sat_obd, sat_some]
@[simp] theorem ws_aug {i : Nat} {o : BO} : WS T k (.aug i o a) ρ S P ↔ slV ρ[i]? fun d => WE T k a ρ S fun x ρ S => dv x fun y => ob (augD o d y) fun r => P (.nx (ρ.set i (.va r)) S) := by
  unfold WS WE dv ob
  simp only [evst, evS]
  split
  · rename_i h
    rw [h]
    simp only [sat_bnd, sat_obd, sat_some, slV_va]
  · rename_i h
    rw [sat_none]
    cases e : ρ[i]? with
    | none => exact Iff.rfl
    | some s =>
      cases s with
      | va d => exact absurd e (h d)
      | _ => exact Iff.rfl
/-- o[k] = v of a content -/
def putC (v : D) : D → D → (D → Prop) → Prop
  | .lst ds, .int i, Q => ob (ixN ds.length i) fun j => Q (.lst (ds.set j v))
  | .dct kvs, kd, Q => (isKey kd = true ∧ kvs.length < sizeLine) ∧ Q (.dct (dput kvs kd v))
  | _, _, _ => False
@[simp] theorem putC_lst {v : D} {ds : List D} {i : Int} {Q : D → Prop} : putC v (.lst ds) (.int i) Q ↔ ob (ixN ds.length i) fun j => Q (.lst (ds.set j v)) := Iff.rfl
@[simp] theorem putC_dct {v kd : D} {kvs : List (D × D)} {Q : D → Prop} : putC v (.dct kvs) kd Q ↔ (isKey kd = true ∧ kvs.length < sizeLine) ∧ Q (.dct (dput kvs kd v)) := Iff.rfl
@[simp] theorem ws_setI : WS T k (.setI a b c) ρ S P ↔ WE T k c ρ S fun x ρ S => dv x fun v => WE T k a ρ S fun p ρ S => WE T k b ρ S fun y ρ S => dv y fun kd => ob (cont ρ S p) fun d => putC v d kd fun d => ob (setC ρ S p d) fun q => P (.nx q.1 q.2) := by
  unfold WS WE dv ob
  simp only [evst, evS, sat_bnd, sat_obd]
  refine ⟨fun h => sat_mono h fun r z => sat_mono z fun v z => sat_mono z fun r z => sat_mono z fun r z => sat_mono z fun kd z => sat_mono z fun d z => ?_, fun h => sat_mono h fun r z => sat_mono z fun v z => sat_mono z fun r z => sat_mono z fun r z => sat_mono z fun kd z => sat_mono z fun d z => ?_⟩
  · split at z
    · simp only [sat_obd, sat_some] at z
      exact z
    · split at z
      · rename_i hz
        simp only [sat_obd, sat_some] at z
        exact ⟨hz, z⟩
      · exact (sat_none.mp z).elim
    · exact (sat_none.mp z).elim
  · cases d with
    | lst ds =>
      cases kd with
      | int i =>
        simp only [sat_obd, sat_some]
        exact z
      | _ => exact False.elim z
    | dct kvs =>
      obtain ⟨z1, z2⟩ := z
      show sat (if isKey kd = true ∧ kvs.length < sizeLine then _ else none) P
      rw [if_pos z1]
      simp only [sat_obd, sat_some]
      exact z2
    | _ => exact False.elim z
theorem ws_setA {f : Str} : WS T k (.setA a f c) ρ S P ↔ WE T k c ρ S fun x ρ S => dv x fun v => WE T k a ρ S fun p ρ S => asIns S p fun n c fs => ob (T.M c (atName f)) fun _ => fs.length < 1000 ∧ P (.nx ρ (S.set n (.ins c (putFD f v fs)))) := by
  unfold WS WE dv ob
  simp only [evst, evS, sat_bnd, sat_obd]
  refine sat_congr fun r => sat_congr fun v => sat_congr fun r2 => ?_
  obtain ⟨o, ρ1, S1⟩ := r2
  cases o with
  | fz d =>
    cases d with
    | ref n =>
      unfold asIns
      dsimp only
      cases h : S1[n]? with
      | none => exact sat_none
      | some o =>
        cases o with
        | da d => exact sat_none
        | ins c fs =>
          dsimp only
          simp only [sat_obd]
          refine sat_congr fun s => ?_
          by_cases z : fs.length < 1000
          · rw [if_pos z]; exact Iff.trans sat_some ⟨fun q => ⟨z, q⟩, fun q => q.2⟩
          · rw [if_neg z]; exact Iff.trans sat_none ⟨fun q => q.elim, fun q => z q.1⟩
    | _ => exact sat_none
  | _ => exact sat_none
@[simp] theorem ws_xpr : WS T k (.xpr a) ρ S P ↔ WE T k a ρ S fun _ ρ S => P (.nx ρ S) := by
  unfold WS WE
  simp only [evst, evS, sat_bnd, sat_some]
/-- what is handed back -/
def retO : Op → (Op → Prop) → Prop
  | .sl _, _ => False
  | o, Q => Q o
@[simp] theorem retO_fz {d : D} {Q : Op → Prop} : retO (.fz d) Q ↔ Q (.fz d) := Iff.rfl
@[simp] theorem retO_fr {d : D} {Q : Op → Prop} : retO (.fr d) Q ↔ Q (.fr d) := Iff.rfl
@[simp] theorem ws_ret : WS T k (.ret a) ρ S P ↔ WE T k a ρ S fun x _ S => retO x fun o => P (.rt o S) := by
  unfold WS WE
  simp only [evst, evS, sat_bnd]
  refine ⟨fun h => sat_mono h fun r z => ?_, fun h => sat_mono h fun r z => ?_⟩
  all_goals
    obtain ⟨o, ρ, S⟩ := r
    cases o <;> first
      | exact (by have z := sat_some.mp z; exact z)
      | exact sat_some.mpr z
      | exact (sat_none.mp z).elim
      | exact False.elim z
@[simp] theorem ws_retN : WS T k .retN ρ S P ↔ P (.rt (.fz .non) S) := sat_some
@[simp] theorem ws_ife {x y : List CS} : WS T k (.ife c x y) ρ S P ↔ WE T k c ρ S fun v ρ S => asB v fun v => if v = true then WSs T k x ρ S P else WSs T k y ρ S P := by
  unfold WS WE WSs
  simp only [evst, evS, sat_bnd]
  refine sat_congr fun r => ?_
  obtain ⟨o, ρ1, S1⟩ := r
  cases o with
  | fz d =>
    cases d with
    | bl b => cases b <;> simp [asB, sat_some]
    | _ => exact sat_none
  | _ => exact sat_none
@[simp] theorem ws_whl {x : List CS} : WS T k (.whl c x) ρ S P ↔ WWh T k c x fuel ρ S P := Iff.rfl
@[simp] theorem ws_for {tg : Tg} {it : It'} {x : List CS} : WS T k (.for_ tg it x) ρ S P ↔ WI T k it ρ S fun ds ρ S => WFor T k tg x ds ρ S P := by
  unfold WS WI WFor
  simp only [evst, evS, sat_bnd]
@[simp] theorem ws_brk : WS T k .brk ρ S P ↔ P (.bk ρ S) := sat_some
@[simp] theorem ws_cnt : WS T k .cnt ρ S P ↔ P (.ct ρ S) := sat_some
@[simp] theorem ws_pas : WS T k .pas ρ S P ↔ P (.nx ρ S) := sat_some
@[simp] theorem ws_frz {i : Nat} {s : CS} : WS T k (.frz i s) ρ S P ↔ slF i ρ ρ[i]? fun ρ => WS T k s ρ S P := by
  unfold WS
  simp only [evst, evS]
  split
  · rename_i h; rw [h]; exact Iff.rfl
  · rename_i h; rw [h]; exact Iff.rfl
  · rename_i h1 h2
    rw [sat_none]
    cases e : ρ[i]? with
    | none => exact Iff.rfl
    | some s =>
      cases s with
      | va d => exact absurd e (h2 d)
      | ow d => exact absurd e (h1 d)
      | no => exact Iff.rfl
@[simp] theorem wss_nil : WSs T k [] ρ S P ↔ P (.nx ρ S) := sat_some
/-- a statement, then the rest -/
def seqQ (T : Tab) (k : Nat) (r : List CS) (P : Out → Prop) : Out → Prop
  | .nx ρ S => WSs T k r ρ S P
  | o => P o
@[simp] theorem seqQ_nx {r : List CS} : seqQ T k r P (.nx ρ S) ↔ WSs T k r ρ S P := Iff.rfl
@[simp] theorem seqQ_rt {r : List CS} {o : Op} : seqQ T k r P (.rt o S) ↔ P (.rt o S) := Iff.rfl
@[simp] theorem seqQ_bk {r : List CS} : seqQ T k r P (.bk ρ S) ↔ P (.bk ρ S) := Iff.rfl
@[simp] theorem seqQ_ct {r : List CS} : seqQ T k r P (.ct ρ S) ↔ P (.ct ρ S) := Iff.rfl
@[simp] theorem seqQ_nil : seqQ T k [] P = P := funext fun o => by
  cases o with
  | nx ρ S => exact propext wss_nil
  | _ => rfl
@[simp] theorem wss_cons {s : CS} {r : List CS} : WSs T k (s :: r) ρ S P ↔ WS T k s ρ S (seqQ T k r P) := by
  unfold WSs WS
  simp only [evsts, evSs, sat_obd]
  refine ⟨fun h => sat_mono h fun o z => ?_, fun h => sat_mono h fun o z => ?_⟩
  all_goals
    cases o <;> first
      | exact z
      | exact (by have z := sat_some.mp z; exact z)
      | exact sat_some.mpr z
/-- the end of a def -/
def retQ (Q : Op → Sto → Prop) : Out → Prop
  | .rt x S => Q x S
  | .nx _ S => Q (.fz .non) S
  | _ => False
@[simp] theorem retQ_rt {Q : Op → Sto → Prop} {x : Op} : retQ Q (.rt x S) ↔ Q x S := Iff.rfl
@[simp] theorem retQ_nx {Q : Op → Sto → Prop} : retQ Q (.nx ρ S) ↔ Q (.fz .non) S := Iff.rfl
theorem wf_def {f : Str} {fn : Fn} {ds : List D} {Q : Op → Sto → Prop} (h : T.F f = some fn) (hl : ds.length = fn.ps) (w : WSs T k fn.body (env0 fn.n ds) S (retQ Q)) : WF T (k + 1) f ds S Q := by
  unfold WF
  show sat (obd (T.F f) _) _
  rw [h]
  show sat (runF T.G (callK T.G T.F T.M k) T.M fn ds S) _
  unfold runF
  rw [if_pos hl]
  refine sat_obd.mpr (sat_mono w fun o z => ?_)
  cases o with
  | rt x S => exact sat_some.mpr z
  | nx ρ S => exact sat_some.mpr z
  | bk _ _ => exact False.elim z
  | ct _ _ => exact False.elim z
/-- an object is made -/
theorem wf_new {c i : Str} {n : Nat} {ds : List D} {Q : Op → Sto → Prop} (h : T.F (newName c) = some ⟨n, n, [.mk c i]⟩) (hl : ds.length = n) (w : WF T k i (.ref S.length :: ds) (S ++ [.ins c []]) fun o S' => o = .fz .non ∧ Q (.fz (.ref S.length)) S') : WF T (k + 1) (newName c) ds S Q := by
  subst hl
  refine wf_def h rfl ?_
  obtain ⟨⟨o, S'⟩, e, e1, q⟩ := w
  have e1 : o = .fz .non := e1
  subst e1
  refine ⟨.rt (.fz (.ref S.length)) S', ?_, q⟩
  have e : callK T.G T.F T.M k i (.ref S.length :: ds) (S ++ [.ins c []]) = some (.fz .non, S') := e
  show evsts T k [.mk c i] (env0 ds.length ds) S = _
  simp only [evsts, evSs, evS, vaAll_env0, obd_some, e]
/-! ### loops by invariants -/
theorem wfor_inv {tg : Tg} {s : List CS} {ds : List D} (I : List D → Env' → Sto → Prop) (h0 : I ds ρ S) (hs : ∀ d r ρ S, I (d :: r) ρ S → ob (bindT tg d ρ) fun ρ => WSs T k s ρ S (turnQ (I r) P)) (hd : ∀ ρ S, I [] ρ S → P (.nx ρ S)) : WFor T k tg s ds ρ S P := by
  induction ds generalizing ρ S with
  | nil => exact wfor_nil.mpr (hd _ _ h0)
  | cons d r ih =>
    refine wfor_cons.mpr (sat_mono (hs d r ρ S h0) fun ρ w => sat_mono w fun o z => ?_)
    cases o with
    | nx ρ S => exact ih z
    | ct ρ S => exact ih z
    | bk ρ S => exact z
    | rt o S => exact z
theorem wwh_inv {s : List CS} (I : Nat → Env' → Sto → Prop) {n m : Nat} (hm : m < n) (h0 : I m ρ S) (hs : ∀ m ρ S, I m ρ S → WC T k [c] ρ S fun v ρ S => if v = true then WSs T k s ρ S (turnQ (fun ρ S => ∃ m', m' < m ∧ I m' ρ S) P) else P (.nx ρ S)) : WWh T k c s n ρ S P := by
  induction n generalizing ρ S m with
  | zero => omega
  | succ n ih =>
    refine wwh_succ.mpr (sat_mono (hs m ρ S h0) fun r z => ?_)
    obtain ⟨v, ρ1, S1⟩ := r
    cases v with
    | false => exact z
    | true =>
      rw [if_pos rfl] at z ⊢
      refine sat_mono z fun o z => ?_
      cases o with
      | nx ρ S =>
        obtain ⟨m', h1, h2⟩ := z
        exact ih (by omega) h2
      | ct ρ S =>
        obtain ⟨m', h1, h2⟩ := z
        exact ih (by omega) h2
      | bk ρ S => exact z
      | rt o S => exact z
theorem wlc_inv {tg : Tg} {ds acc : List D} {Q : List D → Env' → Sto → Prop} (I : List D → List D → Env' → Sto → Prop) (h0 : I ds acc ρ S) (hs : ∀ d r acc ρ S, I (d :: r) acc ρ S → ob (bindT tg d ρ) fun ρ => WC T k es ρ S fun v ρ S =>
    if v = true then WE T k a ρ S fun x ρ S => dv x fun x => acc.length < sizeLine ∧ I r (acc ++ [x]) (wipeT tg.ixs ρ) S else I r acc (wipeT tg.ixs ρ) S) (hd : ∀ acc ρ S, I [] acc ρ S → Q acc ρ S) : WLc T k tg a es ds acc ρ S Q := by
  induction ds generalizing ρ S acc with
  | nil => exact wlc_nil.mpr (hd _ _ _ h0)
  | cons d r ih =>
    refine wlc_cons.mpr (sat_mono (hs d r acc ρ S h0) fun ρ w => sat_mono w fun q z => ?_)
    obtain ⟨v, ρ1, S1⟩ := q
    cases v with
    | false =>
      rw [if_neg Bool.false_ne_true] at z ⊢
      exact ih z
    | true =>
      rw [if_pos rfl] at z ⊢
      exact sat_mono z fun q z => sat_mono z fun x z => ⟨z.1, ih z.2⟩
end
end Sk

/-! Sk19: deals and draws. -/
namespace Sk
open PySem PySem.Spec
theorem fuel_big : 1000000 < fuel := by unfold fuel; decide
def dealD (mixed seed number : Int) (m : Nat) : D := .dct [(.str "mixed", .int mixed), (.str "seed", .int seed), (.str "number", .int number), (.str "left", .ref m)]
theorem dg_mixed {a b c : Int} {m : Nat} : subD (dealD a b c m) (.str "mixed") = some (.int a) := by rfl
theorem dg_seed {a b c : Int} {m : Nat} : subD (dealD a b c m) (.str "seed") = some (.int b) := by rfl
theorem dg_number {a b c : Int} {m : Nat} : subD (dealD a b c m) (.str "number") = some (.int c) := by rfl
theorem dg_left {a b c : Int} {m : Nat} : subD (dealD a b c m) (.str "left") = some (.ref m) := by rfl
theorem four_line : 4 < sizeLine := by decide
theorem dp_number {a b c x : Int} {m : Nat} {Q : D → Prop} : putC (.int x) (dealD a b c m) (.str "number") Q ↔ Q (dealD a b x m) := by
  unfold dealD
  rw [putC_dct]
  exact ⟨fun h => h.2, fun h => ⟨⟨rfl, four_line⟩, h⟩⟩
theorem dp_seed {a b c x : Int} {m : Nat} {Q : D → Prop} : putC (.int x) (dealD a b c m) (.str "seed") Q ↔ Q (dealD a x c m) := by
  unfold dealD
  rw [putC_dct]
  exact ⟨fun h => h.2, fun h => ⟨⟨rfl, four_line⟩, h⟩⟩
/-! contents of places -/
theorem cont_da {ρ : Env'} {S : Sto} {n : Nat} {d : D} (h : S[n]? = some (.da d)) : cont ρ S (.fz (.ref n)) = some d := by
  show (match S[n]? with
    | some (.da d) => some d
    | _ => none) = _
  rw [h]
theorem look_da {ρ : Env'} {S : Sto} {n : Nat} {d : D} (h : S[n]? = some (.da d)) : look ρ S (.fz (.ref n)) = some d := by
  unfold look
  rw [cont_da h]
theorem setC_da {ρ : Env'} {S : Sto} {n : Nat} {d x : D} (h : S[n]? = some (.da d)) : setC ρ S (.fz (.ref n)) x = some (ρ, S.set n (.da x)) := by
  show (match S[n]? with
    | some (.da _) => some (ρ, S.set n (.da x))
    | _ => none) = _
  rw [h]
@[simp] theorem cont_int {ρ : Env'} {S : Sto} {i : Int} : cont ρ S (.fz (.int i)) = some (.int i) := rfl
@[simp] theorem cont_str {ρ : Env'} {S : Sto} {i : Str} : cont ρ S (.fz (.str i)) = some (.str i) := rfl
@[simp] theorem cont_bl {ρ : Env'} {S : Sto} {i : Bool} : cont ρ S (.fz (.bl i)) = some (.bl i) := rfl
@[simp] theorem cont_non {ρ : Env'} {S : Sto} : cont ρ S (.fz .non) = some .non := rfl
@[simp] theorem cont_tup {ρ : Env'} {S : Sto} {i : List D} : cont ρ S (.fz (.tup i)) = some (.tup i) := rfl
@[simp] theorem cont_lst {ρ : Env'} {S : Sto} {i : List D} : cont ρ S (.fz (.lst i)) = some (.lst i) := rfl
@[simp] theorem cont_dct {ρ : Env'} {S : Sto} {i : List (D × D)} : cont ρ S (.fz (.dct i)) = some (.dct i) := rfl
@[simp] theorem cont_fr {ρ : Env'} {S : Sto} {d : D} : cont ρ S (.fr d) = some d := rfl
@[simp] theorem look_int {ρ : Env'} {S : Sto} {i : Int} : look ρ S (.fz (.int i)) = some (.int i) := rfl
@[simp] theorem look_str {ρ : Env'} {S : Sto} {i : Str} : look ρ S (.fz (.str i)) = some (.str i) := rfl
@[simp] theorem look_bl {ρ : Env'} {S : Sto} {i : Bool} : look ρ S (.fz (.bl i)) = some (.bl i) := rfl
@[simp] theorem look_non {ρ : Env'} {S : Sto} : look ρ S (.fz .non) = some .non := rfl
@[simp] theorem look_tup {ρ : Env'} {S : Sto} {i : List D} : look ρ S (.fz (.tup i)) = some (.tup i) := rfl
@[simp] theorem look_lst {ρ : Env'} {S : Sto} {i : List D} : look ρ S (.fz (.lst i)) = some (.lst i) := rfl
@[simp] theorem look_dct {ρ : Env'} {S : Sto} {i : List (D × D)} : look ρ S (.fz (.dct i)) = some (.dct i) := rfl
@[simp] theorem look_fr {ρ : Env'} {S : Sto} {d : D} : look ρ S (.fr d) = some d := rfl
theorem cont_ow {ρ : Env'} {S : Sto} {i : Nat} {d : D} (h : ρ[i]? = some (.ow d)) : cont ρ S (.sl i) = some d := by
  show (match ρ[i]? with
    | some (.ow d) => some d
    | _ => none) = _
  rw [h]
theorem look_ow {ρ : Env'} {S : Sto} {i : Nat} {d : D} (h : ρ[i]? = some (.ow d)) : look ρ S (.sl i) = some d := by
  unfold look
  rw [cont_ow h]
theorem setC_ow {ρ : Env'} {S : Sto} {i : Nat} {d x : D} (h : ρ[i]? = some (.ow d)) : setC ρ S (.sl i) x = some (ρ.set i (.ow x), S) := by
  show (match ρ[i]? with
    | some (.ow _) => some (ρ.set i (.ow x), S)
    | _ => none) = _
  rw [h]
/-! arithmetic -/
@[simp] theorem bop_add {i j : Int} : bopD .add (.int i) (.int j) = some (.fz (.int (i + j))) := rfl
@[simp] theorem bop_sub {i j : Int} : bopD .sub (.int i) (.int j) = some (.fz (.int (i - j))) := rfl
theorem bop_mulS {i j : Int} (h : -(2 ^ 64) < j ∧ j < 2 ^ 64) : bopD .mul (.int i) (.int j) = some (.fz (.int (i * j))) := if_pos (.inl (.inr h))
theorem bop_mulL {i j : Int} (h : -(2 ^ 64) < i ∧ i < 2 ^ 64) : bopD .mul (.int i) (.int j) = some (.fz (.int (i * j))) := if_pos (.inl (.inl h))
theorem bop_mod {i j : Int} (h : 0 < j) : bopD .mod (.int i) (.int j) = some (.fz (.int (i % j))) := if_pos h
theorem bop_fdiv {i j : Int} (h : 0 < j ∧ j.natAbs.log2 < 9000) : bopD .fdiv (.int i) (.int j) = some (.fz (.int (i / j))) := if_pos h
@[simp] theorem cmp_eqI {i j : Int} : cmpD .eq (.int i) (.int j) = some (decide (i = j)) := rfl
@[simp] theorem cmp_neI {i j : Int} : cmpD .ne (.int i) (.int j) = some (!decide (i = j)) := rfl
@[simp] theorem cmp_ltI {i j : Int} : cmpD .lt (.int i) (.int j) = some (decide (i < j)) := rfl
@[simp] theorem cmp_leI {i j : Int} : cmpD .le (.int i) (.int j) = some (decide (i ≤ j)) := rfl
@[simp] theorem cmp_gtI {i j : Int} : cmpD .gt (.int i) (.int j) = some (decide (j < i)) := rfl
@[simp] theorem cmp_geI {i j : Int} : cmpD .ge (.int i) (.int j) = some (decide (j ≤ i)) := rfl
@[simp] theorem len_lst {ds : List D} : bfD .len (.lst ds) = some (.fz (.int ds.length)) := rfl
@[simp] theorem len_tup {ds : List D} : bfD .len (.tup ds) = some (.fz (.int ds.length)) := rfl

/-! ### a deal: the dict at n, its list at m -/
structure DlV (S : Sto) (n m : Nat) (mixed seed number : Int) (left : List Int) : Prop where
  ne : n ≠ m
  hn : S[n]? = some (.da (dealD mixed seed number m))
  hm : S[m]? = some (.da (.lst (left.map .int)))
  s0 : 0 ≤ seed ∧ seed < 2147483647
  n0 : 0 ≤ number
  l0 : ∀ x ∈ left, 0 ≤ x
  ll : left.length ≤ 63
def Dl (S : Sto) (n m : Nat) : Prop := ∃ mixed seed number left, DlV S n m mixed seed number left
/-- nothing else has changed -/
def Dq (S S' : Sto) (n m : Nat) : Prop := S'.length = S.length ∧ ∀ j, j ≠ n → j ≠ m → S'[j]? = S[j]?
theorem Dq.refl {S : Sto} {n m : Nat} : Dq S S n m := ⟨rfl, fun _ _ _ => rfl⟩
theorem Dq.trans {S S' S2 : Sto} {n m : Nat} (a : Dq S S' n m) (b : Dq S' S2 n m) : Dq S S2 n m := ⟨b.1.trans a.1, fun j h1 h2 => (b.2 j h1 h2).trans (a.2 j h1 h2)⟩
theorem Dq.setN {S S' : Sto} {n m : Nat} {o : O} (a : Dq S S' n m) : Dq S (S'.set n o) n m := ⟨by rw [List.length_set]; exact a.1, fun j h1 h2 => by rw [List.getElem?_set_ne (Ne.symm h1)]; exact a.2 j h1 h2⟩
theorem Dq.setM {S S' : Sto} {n m : Nat} {o : O} (a : Dq S S' n m) : Dq S (S'.set m o) n m := ⟨by rw [List.length_set]; exact a.1, fun j h1 h2 => by rw [List.getElem?_set_ne (Ne.symm h2)]; exact a.2 j h1 h2⟩
theorem get_set {S : Sto} {n : Nat} {o o' : O} (h : S[n]? = some o) : (S.set n o')[n]? = some o' := List.getElem?_set_self (List.getElem?_eq_some_iff.mp h).1

def drawC : List CS := [
  .whl (.and (.cmp .eq (.sub (.var 0) (.str "number")) (.int 0)) (.and (.cmp .gt (.bf .len (.sub (.var 0) (.str "left"))) (.int 0)) (.cmp .eq (.sub (.var 0) (.str "mixed")) (.int 0))))
  [.setI (.var 0) (.str "number") (.mt .pop (.sub (.var 0) (.str "left")) [])],
  .asg 2 (.sub (.var 0) (.str "number")),
  .ife (.cmp .gt (.var 2) (.int 0))
  [.setI (.var 0) (.str "number") (.bop .fdiv (.var 2) (.var 1)), .ret (.bop .mod (.var 2) (.var 1))]
  [],
  .asg 3 (.bop .mod (.bop .add (.bop .mul (.sub (.var 0) (.str "seed")) (.int 48271)) (.int 7919)) (.int 2147483647)),
  .setI (.var 0) (.str "seed") (.bop .mod (.bop .add (.bop .mul (.var 3) (.int 40692)) (.int 104729)) (.int 2147483399)),
  .asg 4 (.bop .mod (.bop .mul (.sub (.var 0) (.str "seed")) (.sub (.var 0) (.str "seed"))) (.int 2147483563)),
  .ret (.bop .mod (.bop .add (.bop .mul (.bop .mod (.bop .mul (.var 3) (.var 3)) (.int 2147483629)) (.int 2147483563)) (.var 4)) (.var 1))]
theorem pop_ints {left : List Int} {x : Int} : mtD .pop (.lst ((left ++ [x]).map .int)) [] = some (.int x, some (.lst (left.map .int))) := by
  show ((left ++ [x]).map D.int).getLast?.map _ = _
  rw [List.map_append, List.map_singleton]
  simp
theorem draw_ok {T : Tab} {k : Nat} (hF : T.F "_law_draw" = some ⟨5, 2, drawC⟩) {S : Sto} {n m : Nat} {many : Int} {Q : Op → Sto → Prop} (hd : Dl S n m) (h1 : 0 < many) (h2 : many.natAbs.log2 < 9000)
    (q : ∀ v S', 0 ≤ v → v < many → Dl S' n m → Dq S S' n m → Q (.fz (.int v)) S') : WF T (k + 1) "_law_draw" [.ref n, .int many] S Q := by
  obtain ⟨mixed, seed, number, left, d⟩ := hd
  refine wf_def hF rfl ?_
  show WSs T k drawC [.va (.ref n), .va (.int many), .no, .no, .no] S (retQ Q)
  unfold drawC
  rw [wss_cons, ws_whl]
  refine wwh_inv (m := left.length) (fun j ρ S' => ρ = [.va (.ref n), .va (.int many), .no, .no, .no] ∧ ∃ number left, DlV S' n m mixed seed number left ∧ left.length = j ∧ Dq S S' n m) (by have := d.ll; have := fuel_big; omega) ⟨rfl, number, left, d, rfl, .refl⟩ ?_
  rintro j ρ S1 ⟨rfl, number, left, d, rfl, eq⟩
  have c0 := fun ρ => cont_da (ρ := ρ) d.hn
  have c1 := fun ρ => look_da (ρ := ρ) d.hm
  have c2 := fun ρ => cont_da (ρ := ρ) d.hm
  have after : WSs T k (drawC.drop 1) [.va (.ref n), .va (.int many), .no, .no, .no] S1 (retQ Q) := by
    show WSs T k [_, _, _, _, _, _] _ _ _
    simp only [wss_cons, ws_asg, we_sub, we_var, we_str, List.getElem?_cons_zero, slV_va, c0, ob_some, dv_fz, dg_number, seqQ_nx, List.set_cons_succ, List.set_cons_zero, ws_ife, we_cmp, List.getElem?_cons_succ, look_int, we_int, cmp_gtI, asB_bl]
    by_cases hn : 0 < number
    · rw [if_pos (decide_eq_true hn)]
      simp only [wss_cons, ws_setI, we_bop, we_var, List.getElem?_cons_zero, List.getElem?_cons_succ, slV_va, cont_int, ob_some, bop_fdiv ⟨h1, h2⟩, dv_fz, we_str, c0, dp_number, setC_da d.hn, seqQ_nx, ws_ret, bop_mod h1, retO_fz, seqQ_rt, retQ_rt]
      refine q _ _ (Int.emod_nonneg _ (by omega)) (Int.emod_lt_of_pos _ h1) ⟨mixed, seed, number / many, left, d.ne, get_set d.hn, ?_, d.s0, Int.ediv_nonneg d.n0 (by omega), d.l0, d.ll⟩ eq.setN
      rw [List.getElem?_set_ne d.ne]
      exact d.hm
    · rw [if_neg (by simpa using hn)]
      have hs1 : 0 ≤ (seed * 48271 + 7919) % 2147483647 ∧ (seed * 48271 + 7919) % 2147483647 < 2147483647 := ⟨Int.emod_nonneg _ (by decide), Int.emod_lt_of_pos _ (by decide)⟩
      generalize h3 : (seed * 48271 + 7919) % 2147483647 = one at hs1
      have hs2 : 0 ≤ (one * 40692 + 104729) % 2147483399 ∧ (one * 40692 + 104729) % 2147483399 < 2147483399 := ⟨Int.emod_nonneg _ (by decide), Int.emod_lt_of_pos _ (by decide)⟩
      generalize h4 : (one * 40692 + 104729) % 2147483399 = two at hs2
      have g0 := get_set (o' := O.da (dealD mixed two number m)) d.hn
      have c4 := fun ρ => cont_da (ρ := ρ) g0
      simp only [wss_nil, seqQ_nx, wss_cons, ws_asg, ws_setI, we_bop, we_sub, we_var, we_str, we_int, List.getElem?_cons_zero, List.getElem?_cons_succ, slV_va, c0, c4, ob_some, dv_fz, dg_seed, cont_int, bop_mulS (j := 48271) (by decide), bop_mulS (j := 40692) (by decide), bop_add,
        bop_mod (j := 2147483647) (by decide), bop_mod (j := 2147483399) (by decide), h3, h4, List.set_cons_succ, List.set_cons_zero, dp_seed, setC_da d.hn, bop_mulL (i := two) (j := two) (by omega), bop_mulL (i := one) (j := one) (by omega), bop_mod (j := 2147483563) (by decide),
        bop_mod (j := 2147483629) (by decide), bop_mulS (j := 2147483563) (by decide), bop_mod h1, ws_ret, retO_fz, seqQ_rt, retQ_rt]
      refine q _ _ (Int.emod_nonneg _ (by omega)) (Int.emod_lt_of_pos _ h1) ⟨mixed, two, number, left, d.ne, g0, ?_, by omega, d.n0, d.l0, d.ll⟩ eq.setN
      rw [List.getElem?_set_ne d.ne]
      exact d.hm
  simp only [wc_cons, wc_nil, we_and, we_cmp, we_sub, we_var, we_str, List.getElem?_cons_zero, slV_va, c0, ob_some, dv_fz, dg_number, look_int, we_int, cmp_eqI, asB_bl, we_bf, dg_left, c1, len_lst, cmp_gtI, dg_mixed]
  by_cases hn : number = 0
  · rw [if_pos (decide_eq_true hn)]
    rcases List.eq_nil_or_concat left with hl | ⟨init, x, hl⟩
    · subst hl
      rw [if_neg (by show ¬ decide ((0 : Int) < (([] : List D).length : Nat)) = true; decide), if_neg Bool.false_ne_true]
      exact after
    · rw [List.concat_eq_append] at hl
      subst hl
      rw [if_pos (decide_eq_true (by simp))]
      by_cases hm : mixed = 0
      · rw [if_pos (decide_eq_true hm), if_pos trivial]
        have ty : tyN (D.lst ((init ++ [x]).map D.int)) = tyN (D.lst ((init ++ [x]).map D.int)) := rfl
        have ne : m ≠ n := Ne.symm d.ne
        have g1 := get_set (o' := O.da (.lst (init.map D.int))) d.hm
        have g2 : (S1.set m (.da (.lst (init.map D.int))))[n]? = some (.da (dealD mixed seed number m)) := by
          rw [List.getElem?_set_ne ne]
          exact d.hn
        simp only [wss_cons, wss_nil, ws_setI, we_mt, wl_nil, we_sub, we_var, we_str, List.getElem?_cons_zero, slV_va, c0, c2, ob_some, dv_fz, dg_left, true_and, pop_ints, afterM_some, setC_da d.hm, cont_da g2, dp_number, setC_da g2, seqQ_nx, turnQ_nx]
        refine ⟨init.length, by simp, x, init, ⟨d.ne, get_set g2, ?_, d.s0, d.l0 x (by simp), fun y hy => d.l0 y (by simp [hy]), ?_⟩, rfl, eq.setM.setN⟩
        · rw [List.getElem?_set_ne d.ne]
          exact g1
        · have := d.ll
          rw [List.length_append] at this
          omega
      · rw [if_neg (by simpa using hm), if_neg Bool.false_ne_true]
        exact after
  · rw [if_neg (by simpa using hn), if_neg Bool.false_ne_true]
    exact after

/-! ### the deal itself -/
def dealC : List CS := [
  .asg 2 (.lc (.bf2 .max2 (.var 3) (.bop .sub (.int 0) (.var 3))) (.one 3) (.seq (.slc (.var 0) (some (.var 1)) (some (.int 63)))) []),
  .asg 4 (.bop .add (.int 7919) (.var 1)),
  .for_ (.one 3) (.seq (.var 2))
  [.asg 4 (.bop .mod (.bop .add (.bop .mul (.var 4) (.int 69621)) (.var 3)) (.int 2147483647))],
  .ret (.dis [.str "mixed", .bop .mod (.bf .sum (.slc (.var 0) none (some (.int 1)))) (.int 2), .str "seed", .var 4, .str "number", .int 0, .str "left", .al (.lrev (.var 2))])]
theorem cut_ints {ns : List Int} {lo hi : Option Int} : ∃ ms : List Int, cutD (ns.map .int) lo hi = ms.map .int ∧ ms.length ≤ ns.length := by
  unfold cutD
  rw [List.length_map]
  refine ⟨(ns.drop (HT.sIx ns.length 0 lo)).take (HT.sIx ns.length ns.length hi - HT.sIx ns.length 0 lo), by rw [List.map_take, List.map_drop], ?_⟩
  rw [List.length_take, List.length_drop]
  omega
theorem ints_of (ms : List Int) : intsD (ms.map .int) = some ms := by
  induction ms with
  | nil => rfl
  | cons m r ih =>
    show (intsD (r.map .int)).map (m :: ·) = _
    rw [ih]
    rfl
/-- each item by itself, the state as it is -/
theorem wlc_each {T : Tab} {k : Nat} {tg : Tg} {elt : CE} {cs : List CE} {ρ : Env'} {S : Sto} {Q : List D → Env' → Sto → Prop} (f : D → Option D) : ∀ {ds acc : List D}, acc.length + ds.length ≤ sizeLine →
    (∀ d ∈ ds, ob (bindT tg d ρ) fun ρ1 => WC T k cs ρ1 S fun v ρ2 S2 => if v = true then WE T k elt ρ2 S2 fun x ρ3 S3 => dv x fun x => f d = some x ∧ wipeT tg.ixs ρ3 = ρ ∧ S3 = S else f d = none ∧ wipeT tg.ixs ρ2 = ρ ∧ S2 = S) →
    Q (acc ++ ds.filterMap f) ρ S → WLc T k tg elt cs ds acc ρ S Q
  | [], acc, _, _, q => wlc_nil.mpr (by simpa using q)
  | d :: ds, acc, hl, h, q => by
    refine wlc_cons.mpr (sat_mono (h d List.mem_cons_self) fun ρ1 w => sat_mono w fun r z => ?_)
    obtain ⟨v, ρ2, S2⟩ := r
    rw [List.length_cons] at hl
    cases v with
    | false =>
      rw [if_neg Bool.false_ne_true] at z ⊢
      obtain ⟨z1, z2, rfl⟩ := z
      rw [z2]
      refine wlc_each f (by omega) (fun d hd => h d (List.mem_cons_of_mem _ hd)) ?_
      rw [List.filterMap_cons, z1] at q
      exact q
    | true =>
      rw [if_pos rfl] at z ⊢
      refine sat_mono z fun r z => sat_mono z fun x z => ⟨by omega, ?_⟩
      obtain ⟨o, ρ3, S3⟩ := r
      obtain ⟨z1, z2, z3⟩ := z
      dsimp only at z2 z3 ⊢
      subst z3
      rw [z2]
      refine wlc_each f (by rw [List.length_append, List.length_singleton]; omega) (fun d hd => h d (List.mem_cons_of_mem _ hd)) ?_
      rw [List.filterMap_cons, z1] at q
      rw [List.append_assoc]
      exact q
def abI (i : Int) : Int := if 0 - i > i then 0 - i else i
theorem abI_pos (i : Int) : 0 ≤ abI i := by
  unfold abI
  split <;> omega
def abD : D → Option D
  | .int i => some (.int (abI i))
  | _ => none
theorem abD_all (ms : List Int) : (ms.map D.int).filterMap abD = (ms.map abI).map .int := by
  induction ms with
  | nil => rfl
  | cons m r ih =>
    rw [List.map_cons, List.filterMap_cons]
    show D.int (abI m) :: (r.map D.int).filterMap abD = _
    rw [ih]
    rfl
theorem sum_lst {ms : List Int} : bfD .sum (.lst (ms.map .int)) = some (.fz (.int ms.sum)) := by
  show (intsD (ms.map .int)).map _ = _
  rw [ints_of]
  rfl
theorem seq_lst {ds : List D} : seqD (.lst ds) = some ds := rfl
theorem line63' : 63 ≤ sizeLine := by decide
theorem deal_ok {T : Tab} {k : Nat} (hF : T.F "_law_deal" = some ⟨5, 2, dealC⟩) {S : Sto} {ns : List Int} {start : Int} {Q : Op → Sto → Prop} (hl : ns.length ≤ 63) (h0 : 0 ≤ start ∧ start < 1000000)
    (q : ∀ (mixed seed : Int) (left : List Int), 0 ≤ seed ∧ seed < 2147483647 → (∀ x ∈ left, 0 ≤ x) → left.length ≤ 63 → Q (.fr (dealD mixed seed 0 S.length)) (S ++ [.da (.lst (left.map .int))])) : WF T (k + 1) "_law_deal" [.lst (ns.map .int), .int start] S Q := by
  refine wf_def hF rfl ?_
  show WSs T k dealC [.va (.lst (ns.map .int)), .va (.int start), .no, .no, .no] S (retQ Q)
  unfold dealC
  obtain ⟨ms, em, lm⟩ := cut_ints (ns := ns) (lo := some start) (hi := some 63)
  obtain ⟨os, eo, lo⟩ := cut_ints (ns := ns) (lo := none) (hi := some 1)
  have s1 : slcD (.lst (ns.map .int)) (some start) (some 63) = some (.fr (.lst (ms.map .int))) := by rw [← em]; rfl
  have s2 : slcD (.lst (ns.map .int)) none (some 1) = some (.fr (.lst (os.map .int))) := by rw [← eo]; rfl
  simp only [wss_cons, ws_asg, we_lc, wi_seq, we_slc, we_var, List.getElem?_cons_zero, List.getElem?_cons_succ, slV_va, wo_some, we_int, asI_int, cont_lst, ob_some, s1, dv_fr, seq_lst]
  refine ⟨rfl, ?_⟩
  show WLc T k (.one 3) _ [] (ms.map .int) [] [.va (.lst (ns.map .int)), .va (.int start), .no, .no, .no] S _
  refine wlc_each abD (by rw [List.length_map]; show 0 + ms.length ≤ sizeLine; have := line63'; omega) (fun d hd => ?_) ?_
  · obtain ⟨i, _, rfl⟩ := List.mem_map.mp hd
    show ob (some ([.va (.lst (ns.map .int)), .va (.int start), .no, .va (.int i), .no] : Env')) _
    simp only [ob_some, wc_nil, if_true, we_bf2, we_bop, we_var, we_int, List.getElem?_cons_zero, List.getElem?_cons_succ, slV_va, cont_int, bop_sub, look_int]
    refine ob_eq (a := .fz (.int (abI i))) rfl ?_
    rw [dv_fz]
    exact ⟨rfl, rfl, trivial⟩
  rw [abD_all, List.nil_append]
  generalize hc : ms.map abI = cs
  have hc0 : ∀ x ∈ cs, 0 ≤ x := fun x hx => by
    rw [← hc] at hx
    obtain ⟨i, _, rfl⟩ := List.mem_map.mp hx
    exact abI_pos i
  have hcl : cs.length ≤ 63 := by
    rw [← hc, List.length_map]
    omega
  show WSs T k _ [.va (.lst (ns.map .int)), .va (.int start), .va (.lst (cs.map .int)), .no, .no] S _
  simp only [wss_cons, ws_asg, we_bop, we_int, we_var, List.getElem?_cons_zero, List.getElem?_cons_succ, slV_va, cont_int, ob_some, bop_add, dv_fz, seqQ_nx, List.set_cons_succ, List.set_cons_zero, ws_for, wi_seq, seq_lst]
  refine wfor_inv (fun r ρ S' => S' = S ∧ (∃ rs : List Int, r = rs.map .int) ∧ ∃ s seed, ρ = [.va (.lst (ns.map .int)), .va (.int start), .va (.lst (cs.map .int)), s, .va (.int seed)] ∧ 0 ≤ seed ∧ seed < 2147483647) ⟨rfl, ⟨cs, rfl⟩, .no, 7919 + start, rfl, by omega, by omega⟩ ?_ ?_
  · rintro d r ρ S' ⟨rfl, ⟨rs, er⟩, s, seed, rfl, h1, h2⟩
    cases rs with
    | nil => cases er
    | cons x rs =>
      rw [List.map_cons] at er
      cases er
      show ob (some ([.va (.lst (ns.map .int)), .va (.int start), .va (.lst (cs.map .int)), .va (.int x), .va (.int seed)] : Env')) _
      simp only [ob_some, wss_cons, wss_nil, ws_asg, we_bop, we_int, we_var, List.getElem?_cons_zero, List.getElem?_cons_succ, slV_va, cont_int, bop_add, bop_mulS (j := 69621) (by decide), bop_mod (j := 2147483647) (by decide), dv_fz, seqQ_nx, List.set_cons_succ, List.set_cons_zero, turnQ_nx]
      exact ⟨trivial, ⟨rs, rfl⟩, _, _, rfl, Int.emod_nonneg _ (by decide), Int.emod_lt_of_pos _ (by decide)⟩
  · rintro ρ S' ⟨rfl, _, s, seed, rfl, h1, h2⟩
    simp only [seqQ_nx, wss_cons, wss_nil, ws_ret, we_dis, wl_cons, wl_nil, we_str, dv_fz, we_bop, we_bf, we_slc, we_var, List.getElem?_cons_zero, List.getElem?_cons_succ, slV_va, wo_none, wo_some, we_int, asI_int, cont_lst, ob_some, s2, look_fr, sum_lst, cont_int, bop_mod (j := 2) (by decide), we_al, we_lrev, look_lst, asL_lst, asFr_fr]
    refine ob_eq (a := [(.str "mixed", .int (os.sum % 2)), (.str "seed", .int seed), (.str "number", .int 0), (.str "left", .ref S'.length)]) rfl ⟨⟨(by decide : 4 ≤ 15), rfl⟩, ?_⟩
    show Q (.fr (dealD (os.sum % 2) seed 0 S'.length)) (S' ++ [.da (.lst (cs.map .int).reverse)])
    rw [← List.map_reverse]
    exact q _ seed cs.reverse ⟨h1, h2⟩ (fun x hx => hc0 x (List.mem_reverse.mp hx)) (by rw [List.length_reverse]; exact hcl)
end Sk

/-! Sk20: texts by their signs; names. -/
namespace Sk
open PySem PySem.Spec
open L2 (ixN atI)

/-! ### texts by their signs -/
def st (w : List Nat) : Str := ⟨w.toArray⟩
theorem st_len (w : List Nat) : (st w).length = w.length := List.size_toArray
theorem st_app (a b : List Nat) : st a ++ st b = st (a ++ b) := Str.ext' (by show a.toArray ++ b.toArray = (a ++ b).toArray; simp)
theorem st_list (w : List Nat) : (st w).cps.toList = w := rfl
theorem st_of (z : Str) : z = st z.cps.toList := Str.ext' (by show z.cps = z.cps.toList.toArray; simp)
theorem st_inj {a b : List Nat} (h : st a = st b) : a = b := by
  have := congrArg (fun z : Str => z.cps.toList) h
  exact this
theorem line1m : 1000 ≤ sizeLine := by decide
theorem atI_get {α : Type} {xs : List α} {i : Int} (h0 : 0 ≤ i) (h1 : i < xs.length) : ∃ h : i.toNat < xs.length, atI xs i = some xs[i.toNat] := by
  have h : i.toNat < xs.length := by omega
  refine ⟨h, ?_⟩
  unfold atI ixN
  rw [if_pos h0, if_pos h1]
  exact List.getElem?_eq_getElem h
theorem sub_st {w : List Nat} {i : Int} (hz : w.length ≤ 1000) (h0 : 0 ≤ i) (h1 : i < w.length) : ∃ h : i.toNat < w.length, subD (.str (st w)) (.int i) = some (.str (st [w[i.toNat]])) := by
  obtain ⟨h, e⟩ := atI_get h0 h1
  refine ⟨h, ?_⟩
  show (if (st w).length ≤ sizeLine then (atI (st w).cps.toList i).map fun c => D.str ⟨#[c]⟩ else none) = _
  rw [if_pos (by rw [st_len]; have := line1m; omega), st_list, e]
  rfl
theorem slc_take {w : List Nat} {p : Int} (hz : w.length ≤ 1000) (h0 : 0 ≤ p) : slcD (.str (st w)) none (some p) = some (.fz (.str (st (w.take p.toNat)))) := by
  obtain ⟨q, rfl⟩ : ∃ q : Nat, p = q := ⟨p.toNat, by omega⟩
  show (if (st w).length ≤ sizeLine then some (Op.fz (.str (L2.cutS (st w) none (some (q : Int))))) else none) = _
  rw [if_pos (by rw [st_len]; have := line1m; omega)]
  have : L2.cutS (st w) none (some (q : Int)) = st (w.take q) := by
    unfold L2.cutS
    rw [HT.sIx_nat, HT.sIx_none, st_len, st_list]
    refine Str.ext' ?_
    show ((w.drop 0).take (min q w.length - 0)).toArray = (w.take q).toArray
    rw [List.drop_zero, Nat.sub_zero]
    by_cases h : q ≤ w.length
    · rw [Nat.min_eq_left h]
    · rw [Nat.min_eq_right (by omega), List.take_length, List.take_of_length_le (by omega)]
  rw [this, Int.toNat_natCast]
theorem slc_drop {w : List Nat} {p : Int} (hz : w.length ≤ 1000) (h0 : 0 ≤ p) : slcD (.str (st w)) (some p) none = some (.fz (.str (st (w.drop p.toNat)))) := by
  obtain ⟨q, rfl⟩ : ∃ q : Nat, p = q := ⟨p.toNat, by omega⟩
  show (if (st w).length ≤ sizeLine then some (Op.fz (.str (L2.cutS (st w) (some (q : Int)) none))) else none) = _
  rw [if_pos (by rw [st_len]; have := line1m; omega)]
  have : L2.cutS (st w) (some (q : Int)) none = st (w.drop q) := by
    unfold L2.cutS
    rw [HT.sIx_nat, HT.sIx_none, st_len, st_list]
    refine Str.ext' ?_
    show ((w.drop (min q w.length)).take (w.length - min q w.length)).toArray = (w.drop q).toArray
    by_cases h : q ≤ w.length
    · rw [Nat.min_eq_left h, List.take_of_length_le (by simp)]
    · rw [Nat.min_eq_right (by omega), List.drop_length, List.drop_of_length_le (by omega)]
      simp
  rw [this, Int.toNat_natCast]
theorem cat_st {a b : List Nat} (h : a.length + b.length ≤ 1000) : bopD .add (.str (st a)) (.str (st b)) = some (.fz (.str (st (a ++ b)))) := by
  show (if (st a).length + (st b).length ≤ sizeLine then some (Op.fz (.str (st a ++ st b))) else none) = _
  rw [if_pos (by rw [st_len, st_len]; have := line1m; omega), st_app]
def strD (w : List Nat) : D := .str (st w)
theorem strs_of (ws : List (List Nat)) : strsD (ws.map strD) = some (ws.map st) := by
  induction ws with
  | nil => rfl
  | cons w r ih =>
    show (strsD (r.map strD)).map (st w :: ·) = _
    rw [ih]
    rfl
theorem join_st : ∀ ws : List (List Nat), Str.join (st []) (ws.map st) = st ws.flatten
  | [] => rfl
  | [w] => by simp [Str.join]
  | w :: v :: r => by
    have ih := join_st (v :: r)
    rw [List.map_cons, List.map_cons]
    show st w ++ st [] ++ Str.join (st []) (st v :: r.map st) = _
    rw [List.map_cons] at ih
    rw [ih, st_app, st_app, List.append_nil, ← List.flatten_cons]
theorem in_strs {w : List Nat} {ws : List (List Nat)} : pyIn (.str (st w)) (ws.map strD) = some (decide (w ∈ ws)) := by
  have fl : ∀ ws : List (List Nat), (ws.map strD).all flatD = true := fun ws => by
    induction ws with
    | nil => rfl
    | cons v r ih => rw [List.map_cons, List.all_cons, ih]; rfl
  have an : ∀ ws : List (List Nat), ((ws.map strD).any fun y => feq y (.str (st w))) = decide (w ∈ ws) := fun ws => by
    induction ws with
    | nil => rfl
    | cons v r ih =>
      rw [List.map_cons, List.any_cons, ih]
      show ((st v == st w) || decide (w ∈ r)) = decide (w ∈ v :: r)
      by_cases h : v = w
      · subst h
        simp
      · have h2 : (st v == st w) = false := by
          rw [beq_eq_false_iff_ne]
          exact fun z => h (st_inj z)
        rw [h2, Bool.false_or]
        simp [Ne.symm h]
  unfold pyIn memD
  rw [fl ws, an ws]
  rfl
def lettersL : List Nat := (List.range 26).map (· + 97)
theorem letters_st : ("abcdefghijklmnopqrstuvwxyz" : Str) = st lettersL := by decide +kernel
theorem lettersL_get {i : Nat} (h : i < 26) : ∃ h' : i < lettersL.length, lettersL[i] = i + 97 := ⟨by simpa [lettersL] using h, by simp [lettersL]⟩
theorem let_at {i : Int} (h0 : 0 ≤ i) (h1 : i < 26) : subD (.str (st lettersL)) (.int i) = some (.str (st [i.toNat + 97])) := by
  obtain ⟨h, e⟩ := sub_st (w := lettersL) (i := i) (by decide) h0 (by show i < 26; exact h1)
  rw [e]
  have : lettersL[i.toNat] = i.toNat + 97 := by simp [lettersL]
  rw [this]
theorem let_ixs : ∀ i : Fin 26, Txt.index0 (st lettersL) (st [i.val + 97]) = some i.val := by decide +kernel
theorem let_ix {c : Nat} (h0 : 97 ≤ c) (h1 : c < 123) : mtD .index (.str (st lettersL)) [.str (st [c])] = some (.int ((c - 97 : Nat) : Int), none) := by
  have := let_ixs ⟨c - 97, by omega⟩
  have e : c - 97 + 97 = c := by omega
  dsimp only at this
  rw [e] at this
  show (Txt.index0 (st lettersL) (st [c])).map (fun k => (D.int (k : Nat), (none : Option D))) = _
  rw [this]
  rfl
end Sk

/-! Sk21: names. -/
namespace Sk
open PySem PySem.Spec
open L2 (ixN atI)

theorem nodup_le {α : Type} [DecidableEq α] : ∀ {l1 l2 : List α}, l1.Nodup → (∀ x ∈ l1, x ∈ l2) → l1.length ≤ l2.length
  | [], _, _, _ => Nat.zero_le _
  | a :: r, l2, h, s => by
    rw [List.nodup_cons] at h
    have ha := s a List.mem_cons_self
    have ih := nodup_le (l1 := r) (l2 := l2.erase a) h.2 fun x hx => (List.mem_erase_of_ne (fun z : x = a => h.1 (by rw [← z]; exact hx))).mpr (s x (List.mem_cons_of_mem _ hx))
    rw [List.length_erase_of_mem ha] at ih
    have := List.length_pos_of_mem ha
    rw [List.length_cons]
    omega
def takenL : List (List Nat) := [[105, 110], [102, 114, 111, 109], [116, 111], [101, 110, 100]]
theorem taken_eq : ([.str "in", .str "from", .str "to", .str "end"] : List D) = takenL.map strD := by kernel_rfl
def NmOk (w : List Nat) : Prop := (1 ≤ w.length ∧ w.length ≤ 8) ∧ ∀ c ∈ w, 97 ≤ c ∧ c < 123
structure NmsOk (ws : List (List Nat)) : Prop where
  ok : ∀ w ∈ ws, NmOk w
  nd : ws.Nodup
  nt : ∀ w ∈ ws, w ∉ takenL
def cyc (i0 : Nat) (t : List Nat) (j : Nat) : List Nat := ((i0 + j) % 26 + 97) :: t
theorem cyc_inj {i0 : Nat} {t : List Nat} {i j : Nat} (hi : i < 26) (hj : j < 26) (h : cyc i0 t i = cyc i0 t j) : i = j := by
  unfold cyc at h
  injection h with h _
  omega
theorem cyc_free {i0 : Nat} {t : List Nat} {L : List (List Nat)} {j : Nat} (hj : j < 26) (h : ∀ i, i ≤ j → cyc i0 t i ∈ L) : j + 1 ≤ L.length := by
  have := nodup_le (l1 := (List.range (j + 1)).map (cyc i0 t)) (l2 := L) ?_ fun x hx => by
    obtain ⟨i, hi, rfl⟩ := List.mem_map.mp hx
    exact h i (by have := List.mem_range.mp hi; omega)
  · simpa using this
  · refine List.Pairwise.map _ (R := fun a b => a < b ∧ b < 26) (fun a b hab z => ?_) ?_
    · have := cyc_inj (by omega) hab.2 z
      omega
    · have : (List.range (j + 1)).Pairwise (· < ·) := List.pairwise_lt_range
      refine List.Pairwise.imp_of_mem ?_ this
      intro a b ha hb hab
      have := List.mem_range.mp hb
      exact ⟨hab, by omega⟩

def namesC : List CS := [
  .asg 2 (.str "abcdefghijklmnopqrstuvwxyz"),
  .asgO 3 (.lst []),
  .for_ (.one 4) (.rng (.var 1))
  [.asg 5 (.mt .join (.str "") [.lc (.sub (.var 2) (.call "_law_draw" [.var 0, .int 26])) (.one 6) (.rng (.bop .add (.int 1) (.call "_law_draw" [.var 0, .int 8]))) []]), .ife (.and (.cmp .gt (.var 4) (.int 0)) (.cmp .eq (.call "_law_draw" [.var 0, .int 2]) (.int 0)))
  [.asg 7 (.call "_law_draw" [.var 0, .bf .len (.sub (.rd 3) (.neg (.int 1)))]), .asg 5 (.bop .add (.bop .add (.slc (.sub (.rd 3) (.neg (.int 1))) none (some (.var 7))) (.sub (.var 5) (.int 0))) (.slc (.sub (.rd 3) (.neg (.int 1))) (some (.bop .add (.var 7) (.int 1))) none))]
  [], .whl (.orr (.cmp .inn (.var 5) (.rd 3)) (.cmp .inn (.var 5) (.lst [.str "in", .str "from", .str "to", .str "end"])))
  [.asg 5 (.bop .add (.sub (.var 2) (.bop .mod (.bop .add (.mt .index (.var 2) [.sub (.var 5) (.int 0)]) (.int 1)) (.int 26))) (.slc (.var 5) (some (.int 1)) none))], .xpr (.mt .append (.rd 3) [.var 5])],
  .ret (.mv 3)]
theorem rng_ok {n : Int} (h : n < 2 ^ 62) (h0 : 0 ≤ n) : rngD 0 n = some ((List.range n.toNat).map fun (k : Nat) => .int (0 + k)) := by
  unfold rngD
  rw [if_pos ⟨⟨by decide, by decide⟩, ⟨by omega, h⟩⟩, Int.sub_zero]
theorem join_D {ws : List (List Nat)} (hs : (ws.map List.length).sum ≤ 10000) : mtD .join (.str "") [.lst (ws.map strD)] = some (.str (st ws.flatten), none) := by
  have e0 : ("" : Str) = st [] := by decide +kernel
  have e1 : ((ws.map st).map (·.length)).sum + (ws.map st).length * (st []).length ≤ 16777216 := by
    rw [List.map_map, st_len]
    have : ((fun z : Str => z.length) ∘ st) = List.length := funext fun w => st_len w
    rw [this]
    simp only [List.length_nil, Nat.mul_zero]
    omega
  show (match strsD (ws.map strD) with
    | some ss => if ((ss : List Str).map (fun z : Str => z.length)).sum + ss.length * ("" : Str).length ≤ 16777216 then some (D.str (Str.join "" ss), (none : Option D)) else none
    | none => none) = _
  rw [strs_of, e0]
  dsimp only
  rw [if_pos e1, join_st]
section
variable {T : Tab} {k : Nat} (hD : T.F "_law_draw" = some ⟨5, 2, drawC⟩)
include hD
/-- ''.join([letters[..] for ..]) -/
theorem word_ok {S : Sto} {n m : Nat} {a3 a4 a5 a7 : Sl} {many : D} {Q : Op → Env' → Sto → Prop} (hd : Dl S n m)
    (q : ∀ w S', NmOk w → Dl S' n m → Dq S S' n m → Q (.fz (strD w)) [.va (.ref n), .va many, .va (.str (st lettersL)), a3, a4, a5, .no, a7] S') :
    WE T (k + 1) (.mt .join (.str "") [.lc (.sub (.var 2) (.call "_law_draw" [.var 0, .int 26])) (.one 6) (.rng (.bop .add (.int 1) (.call "_law_draw" [.var 0, .int 8]))) []]) [.va (.ref n), .va many, .va (.str (st lettersL)), a3, a4, a5, .no, a7] S Q := by
  simp only [we_mt, we_str, cont_str, ob_some, wl_cons, wl_nil, we_lc, wi_rng, we_bop, we_int, we_call, we_var, List.getElem?_cons_zero, slV_va, dv_fz]
  refine draw_ok hD hd (by decide) (by decide) fun len S1 l0 l1 d1 e1 => ?_
  simp only [cont_int, ob_some, bop_add, asI_int, rng_ok (n := 1 + len) (by omega) (by omega)]
  refine ⟨rfl, ?_⟩
  show WLc T (k + 1) (.one 6) _ [] _ [] [.va (.ref n), .va many, .va (.str (st lettersL)), a3, a4, a5, .no, a7] S1 _
  refine wlc_inv (fun r acc ρ S' => ρ = [.va (.ref n), .va many, .va (.str (st lettersL)), a3, a4, a5, .no, a7] ∧ (∃ cs : List Nat, acc = cs.map (fun c => strD [c]) ∧ (∀ c ∈ cs, 97 ≤ c ∧ c < 123) ∧ cs.length + r.length = (1 + len).toNat) ∧ Dl S' n m ∧ Dq S1 S' n m) ⟨rfl, ⟨[], rfl, by simp, by simp⟩, d1, .refl⟩ ?_ ?_
  · rintro d r acc ρ S' ⟨rfl, ⟨cs, rfl, hc, hl⟩, hd', eq⟩
    rw [List.length_cons] at hl
    show ob (some ([.va (.ref n), .va many, .va (.str (st lettersL)), a3, a4, a5, .va d, a7] : Env')) _
    simp only [ob_some, wc_nil, if_true, we_sub, we_var, List.getElem?_cons_zero, List.getElem?_cons_succ, slV_va, we_call, wl_cons, wl_nil, we_int, dv_fz]
    refine draw_ok hD hd' (by decide) (by decide) fun v S2 v0 v1 d2 e2 => ?_
    simp only [cont_str, ob_some, dv_fz, let_at v0 v1]
    refine ⟨by rw [List.length_map]; have := line1m; omega, rfl, ⟨cs ++ [v.toNat + 97], by rw [List.map_append]; rfl, fun c hcc => ?_, by rw [List.length_append, List.length_singleton]; omega⟩, d2, eq.trans e2⟩
    rcases List.mem_append.mp hcc with z | z
    · exact hc c z
    · rw [List.mem_singleton.mp z]
      omega
  · rintro acc ρ S' ⟨rfl, ⟨cs, rfl, hc, hl⟩, hd', eq⟩
    have em : cs.map (fun c => strD [c]) = (cs.map fun c => [c]).map strD := by rw [List.map_map]; rfl
    have hl' : cs.length = (1 + len).toNat := by simpa using hl
    have hj := join_D (ws := cs.map fun c => [c]) (by
      have : ∀ l : List Nat, ((l.map fun c => [c]).map List.length).sum = l.length := fun l => by
        induction l with
        | nil => rfl
        | cons c r ih => simp only [List.map_cons, List.sum_cons, ih, List.length_cons, List.length_nil]; omega
      rw [this]
      omega)
    have ef : (cs.map fun c => [c]).flatten = cs := by
      clear hj em hl hl' hc
      induction cs with
      | nil => rfl
      | cons c r ih => rw [List.map_cons, List.flatten_cons, ih]; rfl
    rw [ef] at hj
    rw [dv_fr, em]
    refine ⟨trivial, ?_⟩
    rw [hj, ob_some, afterM_none]
    exact q cs S' ⟨⟨by omega, by omega⟩, hc⟩ hd' (e1.trans eq)
end
end Sk

/-! Sk22: names, all of them. -/
namespace Sk
open PySem PySem.Spec
open L2 (ixN atI)
theorem log_small {i : Int} (h : i.natAbs ≤ 1000000) : i.natAbs.log2 < 9000 := by
  by_cases z : i.natAbs = 0
  · rw [z]; decide
  · refine (Nat.log2_lt z).mpr (Nat.lt_of_le_of_lt h ?_)
    exact Nat.lt_of_lt_of_le (show 1000000 < 2 ^ 20 by decide) (Nat.pow_le_pow_right (by decide) (by decide))
theorem sub_last {ws : List (List Nat)} (h : ws ≠ []) : subD (.lst (ws.map strD)) (.int (-1)) = some (strD (ws.getLast h)) := by
  show atI (ws.map strD) (-1) = _
  have hp : 0 < ws.length := List.length_pos_iff.mpr h
  unfold atI ixN
  rw [if_neg (by decide), if_pos (by rw [List.length_map]; omega), List.length_map]
  have e : ((-1 : Int) + (ws.length : Int)).toNat = ws.length - 1 := by omega
  show (ws.map strD)[((-1 : Int) + (ws.length : Int)).toNat]? = _
  rw [e, List.getElem?_map, List.getElem?_eq_getElem (by omega), List.getLast_eq_getElem]
  rfl
theorem len_st' {w : List Nat} (h : w.length ≤ 1000) : bfD .len (strD w) = some (.fz (.int (w.length : Nat))) := by
  have e : lenD (strD w) = some w.length := by
    show (if (st w).length ≤ sizeLine then some (st w).length else none) = _
    rw [if_pos (by rw [st_len]; have := line1m; omega), st_len]
  simp only [bfD, e]
  rfl
theorem cmp_in_lst {w : List Nat} {ws : List (List Nat)} : cmpD .inn (strD w) (.lst (ws.map strD)) = some (decide (w ∈ ws)) := in_strs
section
variable {T : Tab} {k : Nat} (hD : T.F "_law_draw" = some ⟨5, 2, drawC⟩)
/-- the loop that leads to a free name -/
theorem free_ok {S : Sto} {a0 a1 a4 a7 : Sl} {ws : List (List Nat)} {w : List Nat} {P : Out → Prop} (hw : NmOk w) (hl : ws.length ≤ 20)
    (q : ∀ w, NmOk w → w ∉ ws → w ∉ takenL → P (.nx [a0, a1, .va (.str (st lettersL)), .ow (.lst (ws.map strD)), a4, .va (strD w), .no, a7] S)) :
    WS T k (.whl (.orr (.cmp .inn (.var 5) (.rd 3)) (.cmp .inn (.var 5) (.lst [.str "in", .str "from", .str "to", .str "end"])))
      [.asg 5 (.bop .add (.sub (.var 2) (.bop .mod (.bop .add (.mt .index (.var 2) [.sub (.var 5) (.int 0)]) (.int 1)) (.int 26))) (.slc (.var 5) (some (.int 1)) none))]) [a0, a1, .va (.str (st lettersL)), .ow (.lst (ws.map strD)), a4, .va (strD w), .no, a7] S P := by
  obtain ⟨⟨h1, h8⟩, hc⟩ := hw
  cases w with
  | nil => simp at h1
  | cons c0 t =>
    have hc0 := hc c0 List.mem_cons_self
    have e0 : c0 :: t = cyc (c0 - 97) t 0 := by
      unfold cyc
      congr 1
      omega
    have ok : ∀ j, NmOk (cyc (c0 - 97) t j) := fun j => ⟨⟨by simp [cyc], h8⟩, fun c hcc => by
      rcases List.mem_cons.mp hcc with z | z
      · rw [z]; omega
      · exact hc c (List.mem_cons_of_mem _ z)⟩
    have L4 : takenL.length = 4 := rfl
    rw [ws_whl]
    refine wwh_inv (m := 30) (fun m ρ S' => S' = S ∧ ∃ j, j < 26 ∧ m + j = 30 ∧ ρ = [a0, a1, .va (.str (st lettersL)), .ow (.lst (ws.map strD)), a4, .va (strD (cyc (c0 - 97) t j)), .no, a7] ∧ ∀ i, i < j → cyc (c0 - 97) t i ∈ ws ++ takenL) (by have := fuel_big; omega) ⟨rfl, 0, by decide, rfl, by rw [← e0], fun i hi => by omega⟩ ?_
    rintro m ρ S' ⟨rfl, j, hj, hm, rfl, hin⟩
    have next : cyc (c0 - 97) t j ∈ ws ++ takenL → WSs T k [.asg 5 (.bop .add (.sub (.var 2) (.bop .mod (.bop .add (.mt .index (.var 2) [.sub (.var 5) (.int 0)]) (.int 1)) (.int 26))) (.slc (.var 5) (some (.int 1)) none))]
        [a0, a1, .va (.str (st lettersL)), .ow (.lst (ws.map strD)), a4, .va (strD (cyc (c0 - 97) t j)), .no, a7] S' (turnQ (fun ρ S'' => ∃ m', m' < m ∧ (S'' = S' ∧ ∃ j, j < 26 ∧ m' + j = 30 ∧ ρ = [a0, a1, .va (.str (st lettersL)), .ow (.lst (ws.map strD)), a4, .va (strD (cyc (c0 - 97) t j)), .no, a7] ∧ ∀ i, i < j → cyc (c0 - 97) t i ∈ ws ++ takenL)) P) := fun hmem => by
      have hall : ∀ i, i ≤ j → cyc (c0 - 97) t i ∈ ws ++ takenL := fun i hi => by
        by_cases z : i = j
        · rw [z]; exact hmem
        · exact hin i (by omega)
      have hfree := cyc_free hj hall
      rw [List.length_append, L4] at hfree
      have hz : (cyc (c0 - 97) t j).length ≤ 1000 := by have := (ok j).1.2; omega
      obtain ⟨g, eg⟩ := sub_st (w := cyc (c0 - 97) t j) (i := 0) hz (by decide) (by show (0 : Int) < ((_ :: t : List Nat).length : Nat); simp)
      have eg : subD (strD (cyc (c0 - 97) t j)) (.int 0) = some (.str (st [(c0 - 97 + j) % 26 + 97])) := eg
      have ix := let_ix (c := (c0 - 97 + j) % 26 + 97) (by omega) (by omega)
      have ev : (((c0 - 97 + j) % 26 + 97 - 97 : Nat) : Int) + 1 = (((c0 - 97 + j) % 26 + 1 : Nat) : Int) := by omega
      have em : ((((c0 - 97 + j) % 26 + 1 : Nat) : Int)) % 26 = (((c0 - 97 + (j + 1)) % 26 : Nat) : Int) := by omega
      have la := let_at (i := (((c0 - 97 + (j + 1)) % 26 : Nat) : Int)) (by omega) (by omega)
      rw [Int.toNat_natCast] at la
      have sl : slcD (strD (cyc (c0 - 97) t j)) (some 1) none = some (.fz (.str (st t))) := slc_drop (p := 1) hz (by decide)
      have ct : cont [a0, a1, .va (.str (st lettersL)), .ow (.lst (ws.map strD)), a4, .va (strD (cyc (c0 - 97) t j)), .no, a7] S' (.fz (strD (cyc (c0 - 97) t j))) = some (strD (cyc (c0 - 97) t j)) := rfl
      have ca : bopD .add (.str (st [(c0 - 97 + (j + 1)) % 26 + 97])) (.str (st t)) = some (.fz (.str (st ([(c0 - 97 + (j + 1)) % 26 + 97] ++ t)))) := cat_st (by have : t.length + 1 ≤ 8 := h8; simp; omega)
      simp only [wss_cons, seqQ_nil, ws_asg, we_bop, we_sub, we_mt, wl_cons, wl_nil, we_slc, wo_some, wo_none, we_int, asI_int, we_var, List.getElem?_cons_zero, List.getElem?_cons_succ, slV_va, cont_str, ob_some, ct, dv_fz, eg, ix, afterM_none, true_and, cont_int, bop_add, ev, bop_mod (j := 26) (by decide), em, la, sl, ca, turnQ_nx, List.set_cons_succ, List.set_cons_zero]
      exact ⟨m - 1, by omega, j + 1, by omega, by omega, rfl, fun i hi => hall i (by omega)⟩
    have lk : ∀ ρ S, look ρ S (.fz (strD (cyc (c0 - 97) t j))) = some (strD (cyc (c0 - 97) t j)) := fun _ _ => rfl
    have lo : look [a0, a1, .va (.str (st lettersL)), .ow (.lst (ws.map strD)), a4, .va (strD (cyc (c0 - 97) t j)), .no, a7] S' (.sl 3) = some (.lst (ws.map strD)) := look_ow rfl
    have tk : cmpD .inn (strD (cyc (c0 - 97) t j)) (.lst [.str "in", .str "from", .str "to", .str "end"]) = some (decide (cyc (c0 - 97) t j ∈ takenL)) := by
      rw [taken_eq]
      exact cmp_in_lst
    simp only [wc_cons, wc_nil, we_orr, we_cmp, we_var, we_rd, List.getElem?_cons_zero, List.getElem?_cons_succ, slV_va, slR_ow, lk, lo, ob_some, cmp_in_lst, asB_bl, we_lst, wl_cons, wl_nil, we_str, dv_fz, look_fr, tk]
    by_cases c1 : cyc (c0 - 97) t j ∈ ws
    · rw [if_pos (decide_eq_true c1)]
      try rw [if_pos trivial]
      exact next (List.mem_append_left _ c1)
    · rw [if_neg (by simpa using c1)]
      refine ⟨by show 4 ≤ _; decide, ?_⟩
      by_cases c2 : cyc (c0 - 97) t j ∈ takenL
      · rw [if_pos (decide_eq_true c2)]
        try rw [if_pos trivial]
        exact next (List.mem_append_right _ c2)
      · rw [if_neg (by simpa using c2)]
        try rw [if_neg Bool.false_ne_true]
        exact q _ (ok j) c1 c2
end
end Sk

/-! Sk23: _law_names. -/
namespace Sk
open PySem PySem.Spec
open L2 (ixN atI)
section
variable {T : Tab} {k : Nat} (hD : T.F "_law_draw" = some ⟨5, 2, drawC⟩)
include hD
theorem names_ok (hF : T.F "_law_names" = some ⟨8, 2, namesC⟩) {S : Sto} {n m : Nat} {many : Int} {Q : Op → Sto → Prop} (hd : Dl S n m) (h0 : 0 ≤ many) (h20 : many ≤ 20)
    (q : ∀ (ws : List (List Nat)) S', ws.length = many.toNat → NmsOk ws → Dl S' n m → Dq S S' n m → Q (.fr (.lst (ws.map strD))) S') : WF T (k + 2) "_law_names" [.ref n, .int many] S Q := by
  refine wf_def hF rfl ?_
  show WSs T (k + 1) namesC [.va (.ref n), .va (.int many), .no, .no, .no, .no, .no, .no] S (retQ Q)
  unfold namesC
  simp only [wss_cons, seqQ_nil, ws_asg, we_str, dv_fz, seqQ_nx, List.set_cons_succ, List.set_cons_zero, ws_asgO, we_lst, wl_nil, asFr_fr, letters_st, ws_for, wi_rng, we_var, List.getElem?_cons_zero, List.getElem?_cons_succ, slV_va, asI_int, rng_ok (n := many) (by omega) h0, ob_some]
  refine ⟨by decide, ?_⟩
  refine wfor_inv (fun r ρ S' => ∃ (ws : List (List Nat)) (a4 a5 a7 : Sl), ρ = [.va (.ref n), .va (.int many), .va (.str (st lettersL)), .ow (.lst (ws.map strD)), a4, a5, .no, a7] ∧ NmsOk ws ∧ ws.length ≤ many.toNat ∧ r = ((List.range many.toNat).drop ws.length).map (fun (k : Nat) => D.int (0 + k)) ∧ Dl S' n m ∧ Dq S S' n m)
    ⟨[], .no, .no, .no, rfl, ⟨by simp, List.nodup_nil, by simp⟩, Nat.zero_le _, rfl, hd, .refl⟩ ?_ ?_
  · rintro d r ρ S1 ⟨ws, a4, a5, a7, rfl, hw, hl, er, d1, e1⟩
    have hlt : ws.length < many.toNat := by
      have := congrArg List.length er
      rw [List.length_cons, List.length_map, List.length_drop, List.length_range] at this
      omega
    rw [List.drop_eq_getElem_cons (by rw [List.length_range]; exact hlt), List.map_cons, List.getElem_range] at er
    injection er with e2 e3
    subst e2
    show ob (some ([.va (.ref n), .va (.int many), .va (.str (st lettersL)), .ow (.lst (ws.map strD)), .va (.int (0 + (ws.length : Nat))), a5, .no, a7] : Env')) _
    rw [ob_some, wss_cons, ws_asg]
    refine word_ok hD d1 fun w S2 hwd d2 eq2 => ?_
    rw [dv_fz, seqQ_nx]
    show WSs T (k + 1) _ [.va (.ref n), .va (.int many), .va (.str (st lettersL)), .ow (.lst (ws.map strD)), .va (.int (0 + (ws.length : Nat))), .va (strD w), .no, a7] S2 _
    -- the word is free, then kept
    have fin : ∀ w S3 a7, NmOk w → Dl S3 n m → Dq S S3 n m → WSs T (k + 1) [.whl (.orr (.cmp .inn (.var 5) (.rd 3)) (.cmp .inn (.var 5) (.lst [.str "in", .str "from", .str "to", .str "end"])))
        [.asg 5 (.bop .add (.sub (.var 2) (.bop .mod (.bop .add (.mt .index (.var 2) [.sub (.var 5) (.int 0)]) (.int 1)) (.int 26))) (.slc (.var 5) (some (.int 1)) none))], .xpr (.mt .append (.rd 3) [.var 5])]
        [.va (.ref n), .va (.int many), .va (.str (st lettersL)), .ow (.lst (ws.map strD)), .va (.int (0 + (ws.length : Nat))), .va (strD w), .no, a7] S3 (turnQ (fun ρ S' => ∃ (ws : List (List Nat)) (a4 a5 a7 : Sl), ρ = [.va (.ref n), .va (.int many), .va (.str (st lettersL)), .ow (.lst (ws.map strD)), a4, a5, .no, a7] ∧ NmsOk ws ∧ ws.length ≤ many.toNat ∧ r = ((List.range many.toNat).drop ws.length).map (fun (k : Nat) => D.int (0 + k)) ∧ Dl S' n m ∧ Dq S S' n m) (seqQ T (k + 1) [.ret (.mv 3)] (retQ Q))) := fun w S3 a7 hwd d3 eq3 => by
      rw [wss_cons]
      refine free_ok hwd (by omega) fun w hwd n1 n2 => ?_
      have ct : cont [.va (.ref n), .va (.int many), .va (.str (st lettersL)), .ow (.lst (ws.map strD)), .va (.int (0 + (ws.length : Nat))), .va (strD w), .no, a7] S3 (.sl 3) = some (.lst (ws.map strD)) := cont_ow rfl
      have ap : mtD .append (.lst (ws.map strD)) [strD w] = some (.non, some (.lst (ws.map strD ++ [strD w]))) := by
        show (if (ws.map strD).length < sizeLine then _ else none) = _
        rw [if_pos (by rw [List.length_map]; have := line1m; omega)]
      have sc : setC [.va (.ref n), .va (.int many), .va (.str (st lettersL)), .ow (.lst (ws.map strD)), .va (.int (0 + (ws.length : Nat))), .va (strD w), .no, a7] S3 (.sl 3) (.lst (ws.map strD ++ [strD w])) = some ([.va (.ref n), .va (.int many), .va (.str (st lettersL)), .ow (.lst (ws.map strD ++ [strD w])), .va (.int (0 + (ws.length : Nat))), .va (strD w), .no, a7], S3) := setC_ow rfl
      simp only [seqQ_nx, wss_cons, seqQ_nil, ws_xpr, we_mt, we_rd, List.getElem?_cons_zero, List.getElem?_cons_succ, slR_ow, ct, ob_some, wl_cons, wl_nil, we_var, slV_va, dv_fz, true_and, ap, afterM_some, sc, turnQ_nx]
      refine ⟨ws ++ [w], _, _, _, by rw [List.map_append]; rfl, ⟨fun x hx => ?_, ?_, fun x hx => ?_⟩, by rw [List.length_append, List.length_singleton]; omega, by rw [List.length_append, List.length_singleton]; exact e3, d3, eq3⟩
      · rcases List.mem_append.mp hx with z | z
        · exact hw.ok x z
        · rw [List.mem_singleton.mp z]; exact hwd
      · rw [List.nodup_append]
        refine ⟨hw.nd, by simp, fun x hx y hy z => n1 ?_⟩
        rw [List.mem_singleton.mp hy] at z
        exact z ▸ hx
      · rcases List.mem_append.mp hx with z | z
        · exact hw.nt x z
        · rw [List.mem_singleton.mp z]; exact n2
    have eq12 := e1.trans eq2
    rw [wss_cons]
    simp only [ws_ife, we_and, we_cmp, we_var, List.getElem?_cons_zero, List.getElem?_cons_succ, slV_va, we_int, look_int, ob_some, cmp_gtI, asB_bl]
    by_cases hz : ws = []
    · rw [if_neg (by rw [hz]; decide)]
      try rw [asB_bl]
      try rw [if_neg Bool.false_ne_true]
      rw [wss_nil, seqQ_nx]
      exact fin w S2 a7 hwd d2 eq12
    · have hp : 0 < ws.length := List.length_pos_iff.mpr hz
      rw [if_pos (decide_eq_true (by omega))]
      simp only [we_call, wl_cons, wl_nil, we_var, List.getElem?_cons_zero, List.getElem?_cons_succ, slV_va, we_int, dv_fz]
      refine draw_ok hD d2 (by decide) (by decide) fun v S3 v0 v1 d3 e3' => ?_
      simp only [look_int, ob_some, cmp_eqI, asB_bl]
      by_cases hv : v = 0
      · rw [if_pos (decide_eq_true hv)]
        have hlast := hw.ok _ (List.getLast_mem hz)
        generalize hg : ws.getLast hz = u at hlast
        have sl := sub_last hz
        rw [hg] at sl
        have ct : ∀ a7 S, cont [.va (.ref n), .va (.int many), .va (.str (st lettersL)), .ow (.lst (ws.map strD)), .va (.int (0 + (ws.length : Nat))), .va (strD w), .no, a7] S (.sl 3) = some (.lst (ws.map strD)) := fun _ _ => cont_ow rfl
        have lk : ∀ ρ S, look ρ S (.fz (strD u)) = some (strD u) := fun _ _ => rfl
        have ck : ∀ ρ S z, cont ρ S (.fz (strD z)) = some (strD z) := fun _ _ _ => rfl
        simp only [wss_cons, seqQ_nil, ws_asg, we_call, wl_cons, wl_nil, we_var, List.getElem?_cons_zero, List.getElem?_cons_succ, slV_va, dv_fz, we_bf, we_sub, we_rd, slR_ow, we_neg, we_int, asI_int, ct, ob_some, sl, lk, len_st' (w := u) (by have := hlast.1.2; omega)]
        refine draw_ok hD d3 (by have := hlast.1.1; omega) (log_small (by have := hlast.1.2; omega)) fun p S4 p0 p1 d4 e4 => ?_
        obtain ⟨g, eg⟩ := sub_st (w := w) (i := 0) (by have := hwd.1.2; omega) (by decide) (by have := hwd.1.1; omega)
        have eg : subD (strD w) (.int 0) = some (.str (st [w[0]])) := eg
        have t1 : slcD (strD u) none (some p) = some (.fz (.str (st (u.take p.toNat)))) := slc_take (by have := hlast.1.2; omega) p0
        have t2 : slcD (strD u) (some (p + 1)) none = some (.fz (.str (st (u.drop (p + 1).toNat)))) := slc_drop (by have := hlast.1.2; omega) (by omega)
        have hp' : p.toNat < u.length := by omega
        have ht : (u.take p.toNat).length = p.toNat := by rw [List.length_take]; omega
        have hdl : (u.drop (p + 1).toNat).length = u.length - (p.toNat + 1) := by rw [List.length_drop]; omega
        have u8 := hlast.1.2
        have c1 : bopD .add (.str (st (u.take p.toNat))) (.str (st [w[0]])) = some (.fz (.str (st (u.take p.toNat ++ [w[0]])))) := cat_st (by rw [ht, List.length_singleton]; omega)
        have c2 : bopD .add (.str (st (u.take p.toNat ++ [w[0]]))) (.str (st (u.drop (p + 1).toNat))) = some (.fz (.str (st (u.take p.toNat ++ [w[0]] ++ u.drop (p + 1).toNat)))) := cat_st (by rw [List.length_append, ht, List.length_singleton, hdl]; omega)
        simp only [dv_fz, seqQ_nx, wss_cons, seqQ_nil, ws_asg, List.set_cons_succ, List.set_cons_zero, we_bop, we_slc, we_sub, we_rd, List.getElem?_cons_zero, List.getElem?_cons_succ, slR_ow, slV_va, we_neg, we_int, asI_int, ct, ck, ob_some, dv_fz, sl, wo_none, wo_some, we_var, t1, eg, cont_str, c1, cont_int, bop_add, t2, c2]
        refine wss_cons.mp (fin (u.take p.toNat ++ [w[0]] ++ u.drop (p + 1).toNat) S4 _ ⟨⟨?_, ?_⟩, fun c hc => ?_⟩ d4 ((eq12.trans e3').trans e4))
        · rw [List.length_append, List.length_append, List.length_singleton]; omega
        · rw [List.length_append, List.length_append, List.length_singleton, ht, hdl]; omega
        · rcases List.mem_append.mp hc with z | z
          · rcases List.mem_append.mp z with z | z
            · exact hlast.2 c (List.mem_of_mem_take z)
            · rw [List.mem_singleton.mp z]
              exact hwd.2 _ (List.getElem_mem g)
          · exact hlast.2 c (List.mem_of_mem_drop z)
      · rw [if_neg (by simpa using hv)]
        try rw [if_neg Bool.false_ne_true]
        rw [wss_nil, seqQ_nx]
        exact fin w S3 a7 hwd d3 (eq12.trans e3')
  · rintro ρ S1 ⟨ws, a4, a5, a7, rfl, hw, hl, er, d1, e1⟩
    have hlen : ws.length = many.toNat := by
      have := congrArg List.length er
      rw [List.length_nil, List.length_map, List.length_drop, List.length_range] at this
      omega
    simp only [seqQ_nx, wss_cons, seqQ_nil, ws_ret, we_mv, List.getElem?_cons_zero, List.getElem?_cons_succ, slO_ow, retO_fr, retQ_rt]
    exact q ws S1 hlen hw d1 e1
end
end Sk

/-! Sk24: drawn numbers. -/
namespace Sk
open PySem PySem.Spec
open L2 (ixN atI)
theorem log_64 {i : Int} (h : i.natAbs < 2 ^ 64) : i.natAbs.log2 < 9000 := by
  by_cases z : i.natAbs = 0
  · rw [z]; decide
  · refine (Nat.log2_lt z).mpr (Nat.lt_of_lt_of_le h ?_)
    exact Nat.pow_le_pow_right (by decide) (by decide)
theorem sub_ints {xs : List Int} {v : Int} (h0 : 0 ≤ v) (h1 : v < xs.length) : ∃ h : v.toNat < xs.length, subD (.lst (xs.map .int)) (.int v) = some (.int xs[v.toNat]) := by
  obtain ⟨h, e⟩ := atI_get (xs := xs.map D.int) h0 (by rw [List.length_map]; exact h1)
  rw [List.length_map] at h
  refine ⟨h, ?_⟩
  show atI (xs.map D.int) v = _
  rw [e, List.getElem_map]
def numberC : List CS := [
  .asg 2 (.call "_law_draw" [.var 0, .int 3]),
  .ife (.cmp .eq (.var 2) (.int 0))
  [.ret (.bop .sub (.call "_law_draw" [.var 0, .int 9]) (.int 4))]
  [],
  .ife (.cmp .eq (.var 2) (.int 1))
  [.ret (.sub (.lst [.var 1, .neg (.var 1), .bop .sub (.var 1) (.int 1), .bop .sub (.int 1) (.var 1)]) (.call "_law_draw" [.var 0, .int 4]))]
  [],
  .ret (.bop .sub (.call "_law_draw" [.var 0, .bop .add (.bop .mul (.int 2) (.var 1)) (.int 1)]) (.var 1))]
def numbersC : List CS := [
  .asg 2 (.call "_law_number" [.var 0, .int 999000]),
  .asgO 3 (.lst []),
  .for_ (.one 4) (.rng (.var 1))
  [.xpr (.mt .insert (.rd 3) [.call "_law_draw" [.var 0, .bop .add (.bf .len (.rd 3)) (.int 1)], .var 2]), .asg 2 (.bop .add (.bop .add (.var 2) (.int 1)) (.sub (.lst [.int 0, .int 0, .call "_law_draw" [.var 0, .int 16]]) (.call "_law_draw" [.var 0, .int 3])))],
  .ret (.bf .tuple (.rd 3))]
section
variable {T : Tab} {k : Nat} (hD : T.F "_law_draw" = some ⟨5, 2, drawC⟩)
include hD
theorem num_ok (hF : T.F "_law_number" = some ⟨3, 2, numberC⟩) {S : Sto} {n m : Nat} {most : Int} {Q : Op → Sto → Prop} (hd : Dl S n m) (h0 : 4 ≤ most) (h1 : most < 2 ^ 60)
    (q : ∀ (i : Int) S', -most ≤ i → i ≤ most → Dl S' n m → Dq S S' n m → Q (.fz (.int i)) S') : WF T (k + 2) "_law_number" [.ref n, .int most] S Q := by
  refine wf_def hF rfl ?_
  show WSs T (k + 1) numberC [.va (.ref n), .va (.int most), .no] S (retQ Q)
  unfold numberC
  simp only [wss_cons, seqQ_nil, ws_asg, we_call, wl_cons, wl_nil, we_var, List.getElem?_cons_zero, slV_va, dv_fz, we_int]
  refine draw_ok hD hd (by decide) (by decide) fun v S1 v0 v1 d1 e1 => ?_
  simp only [dv_fz, seqQ_nx, wss_cons, wss_nil, seqQ_nil, ws_ife, we_cmp, we_var, List.set_cons_succ, List.set_cons_zero, List.getElem?_cons_zero, List.getElem?_cons_succ, slV_va, we_int, look_int, ob_some, cmp_eqI, asB_bl]
  by_cases c0 : v = 0
  · rw [if_pos (decide_eq_true c0)]
    simp only [ws_ret, we_bop, we_call, wl_cons, wl_nil, we_var, List.getElem?_cons_zero, slV_va, dv_fz, we_int]
    refine draw_ok hD d1 (by decide) (by decide) fun x S2 x0 x1 d2 e2 => ?_
    simp only [cont_int, ob_some, bop_sub, retO_fz, seqQ_rt, retQ_rt]
    exact q _ S2 (by omega) (by omega) d2 (e1.trans e2)
  rw [if_neg (by simpa using c0)]
  by_cases c1 : v = 1
  · rw [if_pos (decide_eq_true c1)]
    simp only [ws_ret, we_sub, we_lst, wl_cons, wl_nil, we_neg, asI_int, we_bop, we_call, we_var, List.getElem?_cons_zero, List.getElem?_cons_succ, slV_va, dv_fz, we_int, cont_int, ob_some, bop_sub]
    refine ⟨by show 4 ≤ _; decide, draw_ok hD d1 (by decide) (by decide) fun x S2 x0 x1 d2 e2 => ?_⟩
    obtain ⟨g, eg⟩ := sub_ints (xs := [most, -most, most - 1, 1 - most]) x0 x1
    have eg : subD (.lst [.int most, .int (-most), .int (most - 1), .int (1 - most)]) (.int x) = some (.int ([most, -most, most - 1, 1 - most][x.toNat])) := eg
    simp only [cont_fr, ob_some, dv_fz, eg, retO_fz, seqQ_rt, retQ_rt]
    have hm := List.getElem_mem g
    generalize [most, -most, most - 1, 1 - most][x.toNat] = y at hm
    simp only [List.mem_cons, List.not_mem_nil, or_false] at hm
    exact q _ S2 (by omega) (by omega) d2 (e1.trans e2)
  rw [if_neg (by simpa using c1)]
  simp only [ws_ret, we_bop, we_call, wl_cons, wl_nil, we_var, List.getElem?_cons_zero, List.getElem?_cons_succ, slV_va, dv_fz, we_int, cont_int, ob_some, bop_mulL (i := 2) (j := most) (by decide), bop_add]
  refine draw_ok hD d1 (by omega) (log_64 (by omega)) fun x S2 x0 x1 d2 e2 => ?_
  simp only [cont_int, ob_some, bop_sub, retO_fz, seqQ_rt, retQ_rt]
  exact q _ S2 (by omega) (by omega) d2 (e1.trans e2)
theorem nums_ok (hN : T.F "_law_number" = some ⟨3, 2, numberC⟩) (hF : T.F "_law_numbers" = some ⟨5, 2, numbersC⟩) {S : Sto} {n m : Nat} {many : Int} {Q : Op → Sto → Prop} (hd : Dl S n m) (h0 : 0 ≤ many) (h60 : many ≤ 60)
    (q : ∀ (is : List Int) S', is.length = many.toNat → is.Nodup → (∀ i ∈ is, -1000000 ≤ i ∧ i ≤ 1000000) → Dl S' n m → Dq S S' n m → Q (.fz (.tup (is.map .int))) S') : WF T (k + 3) "_law_numbers" [.ref n, .int many] S Q := by
  refine wf_def hF rfl ?_
  show WSs T (k + 2) numbersC [.va (.ref n), .va (.int many), .no, .no, .no] S (retQ Q)
  unfold numbersC
  simp only [wss_cons, seqQ_nil, ws_asg, we_call, wl_cons, wl_nil, we_var, List.getElem?_cons_zero, slV_va, dv_fz, we_int]
  refine num_ok hD hN hd (by decide) (by decide) fun low S1 b0 b1 d1 e1 => ?_
  simp only [dv_fz, seqQ_nx, wss_cons, seqQ_nil, ws_asgO, we_lst, wl_nil, asFr_fr, List.set_cons_succ, List.set_cons_zero, ws_for, wi_rng, we_var, List.getElem?_cons_zero, List.getElem?_cons_succ, slV_va, asI_int, rng_ok (n := many) (by omega) h0, ob_some]
  refine ⟨by decide, ?_⟩
  refine wfor_inv (fun r ρ S' => ∃ (is : List Int) (low : Int) (a4 : Sl), ρ = [.va (.ref n), .va (.int many), .va (.int low), .ow (.lst (is.map .int)), a4] ∧ is.length + r.length = many.toNat ∧ is.Nodup ∧ (∀ i ∈ is, -1000000 ≤ i ∧ i < low) ∧ -999000 ≤ low ∧ low ≤ 999000 + 16 * (is.length : Int) ∧ Dl S' n m ∧ Dq S S' n m)
    ⟨[], low, .no, rfl, by simp, List.nodup_nil, by simp, b0, by simpa using b1, d1, e1⟩ ?_ ?_
  · rintro d r ρ S2 ⟨is, low, a4, rfl, hl, hnd, hi, l0, l1, d2, e2⟩
    rw [List.length_cons] at hl
    show ob (some ([.va (.ref n), .va (.int many), .va (.int low), .ow (.lst (is.map .int)), .va d] : Env')) _
    have ct : ∀ S, cont [.va (.ref n), .va (.int many), .va (.int low), .ow (.lst (is.map .int)), .va d] S (.sl 3) = some (.lst (is.map .int)) := fun _ => cont_ow rfl
    have lk : ∀ S, look [.va (.ref n), .va (.int many), .va (.int low), .ow (.lst (is.map .int)), .va d] S (.sl 3) = some (.lst (is.map .int)) := fun _ => look_ow rfl
    simp only [ob_some, wss_cons, seqQ_nil, ws_xpr, we_mt, we_rd, List.getElem?_cons_zero, List.getElem?_cons_succ, slR_ow, ct, wl_cons, wl_nil, we_call, we_var, slV_va, dv_fz, we_bop, we_bf, lk, len_lst, List.length_map, we_int, cont_int, bop_add]
    refine draw_ok hD d2 (by omega) (log_64 (by omega)) fun v S3 v0 v1 d3 e3 => ?_
    have ins : mtD .insert (.lst (is.map .int)) [.int v, .int low] = some (.non, some (.lst ((is.take v.toNat ++ low :: is.drop v.toNat).map .int))) := by
      show (if (is.map D.int).length < sizeLine ∧ 0 ≤ v ∧ v < 2 ^ 63 then some (D.non, some (D.lst ((is.map D.int).take v.toNat ++ D.int low :: (is.map D.int).drop v.toNat))) else none) = _
      rw [if_pos ⟨by rw [List.length_map]; have := line1m; omega, v0, by omega⟩, List.map_append, List.map_take, List.map_cons, List.map_drop]
    have sc : setC [.va (.ref n), .va (.int many), .va (.int low), .ow (.lst (is.map .int)), .va d] S3 (.sl 3) (.lst ((is.take v.toNat ++ low :: is.drop v.toNat).map .int)) = some ([.va (.ref n), .va (.int many), .va (.int low), .ow (.lst ((is.take v.toNat ++ low :: is.drop v.toNat).map .int)), .va d], S3) := setC_ow rfl
    simp only [dv_fz, ct, ob_some, true_and, ins, afterM_some, sc, seqQ_nx, wss_cons, seqQ_nil, ws_asg, we_bop, we_var, List.getElem?_cons_zero, List.getElem?_cons_succ, slV_va, we_int, cont_int, bop_add, we_sub, we_lst, wl_cons, wl_nil, dv_fz, we_call]
    refine draw_ok hD d3 (by decide) (by decide) fun x S4 x0 x1 d4 e4 => ?_
    simp only [dv_fz]
    refine ⟨by show 3 ≤ _; decide, draw_ok hD d4 (by decide) (by decide) fun y S5 y0 y1 d5 e5 => ?_⟩
    obtain ⟨g, eg⟩ := sub_ints (xs := [0, 0, x]) y0 y1
    have eg : subD (.lst [.int 0, .int 0, .int x]) (.int y) = some (.int ([0, 0, x][y.toNat])) := eg
    have hm := List.getElem_mem g
    simp only [cont_fr, ob_some, dv_fz, eg]
    generalize [0, 0, x][y.toNat] = z at hm
    simp only [List.mem_cons, List.not_mem_nil, or_false] at hm
    simp only [cont_int, ob_some, bop_add, dv_fz, turnQ_nx, List.set_cons_succ, List.set_cons_zero]
    have hmem : ∀ i, i ∈ is.take v.toNat ++ low :: is.drop v.toNat ↔ i = low ∨ i ∈ is := fun i => by
      rw [List.mem_append, List.mem_cons]
      constructor
      · rintro (z | z | z)
        · exact .inr (List.mem_of_mem_take z)
        · exact .inl z
        · exact .inr (List.mem_of_mem_drop z)
      · rintro (z | z)
        · exact .inr (.inl z)
        · have := (List.take_append_drop v.toNat is).symm ▸ z
          exact (List.mem_append.mp this).elim .inl fun z => .inr (.inr z)
    have hlen : (is.take v.toNat ++ low :: is.drop v.toNat).length = is.length + 1 := by
      rw [List.length_append, List.length_cons, List.length_take, List.length_drop]
      omega
    refine ⟨_, _, _, rfl, by rw [hlen]; omega, ?_, fun i hii => ?_, by omega, by rw [hlen]; omega, d5, ((e2.trans e3).trans e4).trans e5⟩
    · have pm : (is.take v.toNat ++ low :: is.drop v.toNat).Perm (low :: is) := by
        refine List.perm_middle.trans ?_
        rw [List.take_append_drop]
      refine pm.symm.nodup ?_
      rw [List.nodup_cons]
      exact ⟨fun z => by have := (hi low z).2; omega, hnd⟩
    · rcases (hmem i).mp hii with z | z
      · rw [z]; omega
      · have := hi i z
        omega
  · rintro ρ S2 ⟨is, low, a4, rfl, hl, hnd, hi, l0, l1, d2, e2⟩
    have lk : look [.va (.ref n), .va (.int many), .va (.int low), .ow (.lst (is.map .int)), a4] S2 (.sl 3) = some (.lst (is.map .int)) := look_ow rfl
    have tp : bfD .tuple (.lst (is.map .int)) = some (.fz (.tup (is.map .int))) := rfl
    simp only [seqQ_nx, wss_cons, seqQ_nil, ws_ret, we_bf, we_rd, List.getElem?_cons_zero, List.getElem?_cons_succ, slR_ow, lk, ob_some, tp, retO_fz, retQ_rt]
    rw [List.length_nil, Nat.add_zero] at hl
    exact q is S2 hl hnd (fun i hii => by have := hi i hii; omega) d2 e2
end
end Sk

/-! Sk25: wishes within the bounds: how many, sums. -/
namespace Sk
open PySem PySem.Spec
open L2 (ixN atI)
/-- a wish -/
inductive Wish where
  | unlike (cs : List (List Nat))
  | many (vs : List Int) (cs : List (List Nat)) (lo hi : Int)
  | sum (ts : List (Int × List Nat)) (lo hi : Option Int)
  | table (cs : List (List Nat)) (rows : List (List Int))
  | way (cs : List (List Nat)) (steps : List (Int × Int × Int)) (ends : List Int)
  | behind (cs : List (List Nat)) (gap : Int)
  | same (c : List Nat) (vs : List Int) (w : Wish)
def tupI (is : List Int) : D := .tup (is.map .int)
def tupS (cs : List (List Nat)) : D := .tup (cs.map strD)
def optD : Option Int → D
  | none => .non
  | some i => .int i
def termD (t : Int × List Nat) : D := .tup [.int t.1, strD t.2]
def stepD (t : Int × Int × Int) : D := .tup [.int t.1, .int t.2.1, .int t.2.2]
def Wish.d : Wish → D
  | .unlike cs => .tup [.str "unlike", tupS cs]
  | .many vs cs lo hi => .tup [.str "many", tupI vs, tupS cs, .int lo, .int hi]
  | .sum ts lo hi => .tup [.str "sum", .tup (ts.map termD), optD lo, optD hi]
  | .table cs rows => .tup [.str "table", tupS cs, .tup (rows.map tupI)]
  | .way cs steps ends => .tup [.str "way", tupS cs, .tup (steps.map stepD), tupI ends]
  | .behind cs gap => .tup [.str "behind", tupS cs, .int gap]
  | .same c vs w => .tup [.str "same", strD c, tupI vs, w.d]
def manyC : List CS := [
  .ret (.sub (.lst [.call "_law_draw" [.var 0, .bop .add (.bf2 .min2 (.var 1) (.int 4)) (.int 1)], .call "_law_draw" [.var 0, .bop .add (.var 1) (.int 1)], .var 1]) (.bop .fdiv (.call "_law_draw" [.var 0, .int 8]) (.int 3)))]
def bigSumC : List CS := [
  .asgO 2 (.lst []),
  .for_ (.one 3) (.seq (.slc (.var 1) none (some (.int 6))))
  [.asg 4 (.call "_law_number" [.var 0, .bop .pow (.int 10) (.int 6)]), .xpr (.mt .append (.rd 2) [.tup [.bop .add (.var 4) (.bf .int (.cmp .eq (.var 4) (.int 0))), .var 3]])],
  .asg 5 (.lst [.call "_law_number" [.var 0, .bop .pow (.int 10) (.int 13)], .non, .call "_law_number" [.var 0, .bop .pow (.int 10) (.int 13)]]),
  .ret (.tup [.str "sum", .bf .tuple (.rd 2), .sub (.var 5) (.call "_law_draw" [.var 0, .int 2]), .sub (.var 5) (.bop .add (.int 1) (.call "_law_draw" [.var 0, .int 2]))])]
theorem pow_6 : bopD .pow (.int 10) (.int 6) = some (.fz (.int 1000000)) := by kernel_rfl
theorem pow_9 : bopD .pow (.int 10) (.int 9) = some (.fz (.int 1000000000)) := by kernel_rfl
theorem pow_13 : bopD .pow (.int 10) (.int 13) = some (.fz (.int 10000000000000)) := by kernel_rfl
theorem min2_ok {i j : Int} : bf2D .min2 (.int i) (.int j) = some (.fz (.int (if j < i then j else i))) := rfl
theorem slc_tupl {ds : List D} {p : Nat} : slcD (.tup ds) none (some (p : Int)) = some (.fz (.tup (ds.take p))) := by
  show some (Op.fz (.tup (cutD ds none (some (p : Int))))) = _
  unfold cutD
  rw [HT.sIx_nat, HT.sIx_none, List.drop_zero, Nat.sub_zero]
  by_cases h : p ≤ ds.length
  · rw [Nat.min_eq_left h]
  · rw [Nat.min_eq_right (by omega), List.take_length, List.take_of_length_le (by omega)]
section
variable {T : Tab} {k : Nat} (hD : T.F "_law_draw" = some ⟨5, 2, drawC⟩)
include hD
theorem many_ok (hF : T.F "_law_many" = some ⟨2, 2, manyC⟩) {S : Sto} {n m : Nat} {most : Int} {Q : Op → Sto → Prop} (hd : Dl S n m) (h0 : 0 ≤ most) (h1 : most < 1000)
    (q : ∀ (i : Int) S', 0 ≤ i → i ≤ most → Dl S' n m → Dq S S' n m → Q (.fz (.int i)) S') : WF T (k + 2) "_law_many" [.ref n, .int most] S Q := by
  refine wf_def hF rfl ?_
  show WSs T (k + 1) manyC [.va (.ref n), .va (.int most)] S (retQ Q)
  unfold manyC
  simp only [wss_cons, seqQ_nil, ws_ret, we_sub, we_lst, wl_cons, wl_nil, we_call, we_var, List.getElem?_cons_zero, List.getElem?_cons_succ, slV_va, dv_fz, we_bop, we_bf2, we_int, look_int, ob_some, min2_ok, cont_int, bop_add]
  refine draw_ok hD hd (by split <;> omega) (log_64 (by split <;> omega)) fun a S1 a0 a1 d1 e1 => ?_
  rw [dv_fz]
  refine draw_ok hD d1 (by omega) (log_64 (by omega)) fun b S2 b0 b1 d2 e2 => ?_
  rw [dv_fz]
  refine ⟨by show 3 ≤ _; decide, draw_ok hD d2 (by decide) (by decide) fun c S3 c0 c1 d3 e3 => ?_⟩
  simp only [cont_int, ob_some, bop_fdiv (j := 3) ⟨by decide, by decide⟩, cont_fr, dv_fz]
  obtain ⟨g, eg⟩ := sub_ints (xs := [a, b, most]) (v := c / 3) (by omega) (by show c / 3 < 3; omega)
  have eg : subD (.lst [.int a, .int b, .int most]) (.int (c / 3)) = some (.int ([a, b, most][(c / 3).toNat])) := eg
  have hm := List.getElem_mem g
  rw [eg, ob_some, retO_fz, retQ_rt]
  generalize [a, b, most][(c / 3).toNat] = z at hm
  simp only [List.mem_cons, List.not_mem_nil, or_false] at hm
  have ha : a ≤ most := by
    split at a1 <;> omega
  exact q z S3 (by omega) (by omega) d3 ((e1.trans e2).trans e3)
theorem bigSum_ok (hN : T.F "_law_number" = some ⟨3, 2, numberC⟩) (hF : T.F "_law_big_sum" = some ⟨6, 2, bigSumC⟩) {S : Sto} {n m : Nat} {cs : List (List Nat)} {Q : Op → Sto → Prop} (hd : Dl S n m) (hc : cs.length ≤ 100)
    (q : ∀ (ts : List (Int × List Nat)) (lo hi : Option Int) S', ts.map (·.2) = cs.take 6 → (∀ t ∈ ts, t.1 ≠ 0 ∧ -1000000 ≤ t.1 ∧ t.1 ≤ 1000000) → (∀ b ∈ [lo, hi], ∀ i, b = some i → -10000000000000 ≤ i ∧ i ≤ 10000000000000) → Dl S' n m → Dq S S' n m → Q (.fz (Wish.sum ts lo hi).d) S') :
    WF T (k + 3) "_law_big_sum" [.ref n, tupS cs] S Q := by
  refine wf_def hF rfl ?_
  show WSs T (k + 2) bigSumC [.va (.ref n), .va (tupS cs), .no, .no, .no, .no] S (retQ Q)
  unfold bigSumC
  have ct0 : ∀ ρ S, cont ρ S (.fz (tupS cs)) = some (tupS cs) := fun _ _ => rfl
  have s6 : slcD (tupS cs) none (some 6) = some (.fz (.tup ((cs.take 6).map strD))) := by
    rw [List.map_take]
    exact slc_tupl (p := 6)
  have sq : ∀ ds, seqD (.tup ds) = some ds := fun _ => rfl
  simp only [wss_cons, seqQ_nil, ws_asgO, we_lst, wl_nil, asFr_fr, seqQ_nx, List.set_cons_succ, List.set_cons_zero, ws_for, wi_seq, we_slc, we_var, List.getElem?_cons_zero, List.getElem?_cons_succ, slV_va, wo_none, wo_some, we_int, asI_int, ct0, ob_some, s6, dv_fz, sq]
  refine ⟨by decide, ?_⟩
  refine wfor_inv (fun r ρ S' => ∃ (ts : List (Int × List Nat)) (rest : List (List Nat)) (a3 a4 : Sl), r = rest.map strD ∧ ts.map (·.2) ++ rest = cs.take 6 ∧ ρ = [.va (.ref n), .va (tupS cs), .ow (.lst (ts.map termD)), a3, a4, .no] ∧ (∀ t ∈ ts, t.1 ≠ 0 ∧ -1000000 ≤ t.1 ∧ t.1 ≤ 1000000) ∧ Dl S' n m ∧ Dq S S' n m)
    ⟨[], cs.take 6, .no, .no, rfl, rfl, rfl, by simp, hd, .refl⟩ ?_ ?_
  · rintro d r ρ S1 ⟨ts, rest, a3, a4, er, hts, rfl, hb, d1, e1⟩
    cases rest with
    | nil => cases er
    | cons c rest =>
      rw [List.map_cons] at er
      injection er with er1 er2
      subst er1
      show ob (some ([.va (.ref n), .va (tupS cs), .ow (.lst (ts.map termD)), .va (strD c), a4, .no] : Env')) _
      simp only [ob_some, wss_cons, seqQ_nil, ws_asg, we_call, wl_cons, wl_nil, we_var, List.getElem?_cons_zero, slV_va, dv_fz, we_bop, we_int, cont_int, pow_6]
      refine num_ok hD hN d1 (by decide) (by decide) fun a S2 a0 a1 d2 e2 => ?_
      have ct : ∀ a4 S, cont [.va (.ref n), .va (tupS cs), .ow (.lst (ts.map termD)), .va (strD c), a4, .no] S (.sl 2) = some (.lst (ts.map termD)) := fun _ _ => cont_ow rfl
      have lts : ts.length ≤ 6 := by
        have := congrArg List.length hts
        rw [List.length_append, List.length_map, List.length_take] at this
        omega
      have ib : ∀ b, bfD .int (.bl b) = some (.fz (.int (if b then 1 else 0))) := fun _ => rfl
      have ap : mtD .append (.lst (ts.map termD)) [.tup [.int (a + if decide (a = 0) = true then 1 else 0), strD c]] = some (.non, some (.lst ((ts ++ [(a + if decide (a = 0) = true then 1 else 0, c)]).map termD))) := by
        show (if (ts.map termD).length < sizeLine then _ else none) = _
        rw [if_pos (by rw [List.length_map]; have := line1m; omega), List.map_append]
        rfl
      have sc : ∀ d', setC [.va (.ref n), .va (tupS cs), .ow (.lst (ts.map termD)), .va (strD c), .va (.int a), .no] S2 (.sl 2) d' = some ([.va (.ref n), .va (tupS cs), .ow d', .va (strD c), .va (.int a), .no], S2) := fun _ => setC_ow rfl
      simp only [dv_fz, seqQ_nx, wss_cons, seqQ_nil, List.set_cons_succ, List.set_cons_zero, ws_xpr, we_mt, we_rd, List.getElem?_cons_zero, List.getElem?_cons_succ, slR_ow, ct, ob_some, wl_cons, wl_nil, we_tup, we_bop, we_var, slV_va, we_bf, we_cmp, look_int, we_int, cmp_eqI, look_bl, ib, cont_int, bop_add, dv_fz]
      refine ⟨by show 2 ≤ _; decide, trivial, ?_⟩
      rw [ap, ob_some, afterM_some, sc, ob_some, turnQ_nx]
      refine ⟨_, rest, _, _, er2, ?_, rfl, fun t ht => ?_, d2, e1.trans e2⟩
      · rw [List.map_append, List.append_assoc]
        exact hts
      · rcases List.mem_append.mp ht with z | z
        · exact hb t z
        · rw [List.mem_singleton.mp z]
          by_cases h : a = 0
          · simp [h]
          · simp [h]
            omega
  · rintro ρ S1 ⟨ts, rest, a3, a4, er, hts, rfl, hb, d1, e1⟩
    have hr : rest = [] := by
      cases rest with
      | nil => rfl
      | cons _ _ => cases er
    subst hr
    rw [List.append_nil] at hts
    have lk : ∀ a5 S, look [.va (.ref n), .va (tupS cs), .ow (.lst (ts.map termD)), a3, a4, a5] S (.sl 2) = some (.lst (ts.map termD)) := fun _ _ => look_ow rfl
    have tp : bfD .tuple (.lst (ts.map termD)) = some (.fz (.tup (ts.map termD))) := rfl
    simp only [seqQ_nx, wss_cons, seqQ_nil, ws_asg, we_lst, wl_cons, wl_nil, we_call, we_var, List.getElem?_cons_zero, List.getElem?_cons_succ, slV_va, dv_fz, we_bop, we_int, cont_int, ob_some, pow_13]
    refine num_ok hD hN d1 (by decide) (by decide) fun b1 S2 b1l b1h d2 e2 => ?_
    simp only [dv_fz, we_non, we_call, wl_cons, wl_nil, we_var, List.getElem?_cons_zero, slV_va, we_bop, we_int, cont_int, ob_some, pow_13]
    refine num_ok hD hN d2 (by decide) (by decide) fun b2 S3 b2l b2h d3 e3 => ?_
    simp only [dv_fz]
    refine ⟨by show 3 ≤ _; decide, ?_⟩
    simp only [dv_fr, seqQ_nx, wss_cons, seqQ_nil, List.set_cons_succ, List.set_cons_zero, ws_ret, we_tup, wl_cons, wl_nil, we_str, dv_fz, we_bf, we_rd, List.getElem?_cons_zero, List.getElem?_cons_succ, slR_ow, lk, ob_some, tp, we_sub, we_var, slV_va, we_call, we_int]
    refine draw_ok hD d3 (by decide) (by decide) fun x S4 x0 x1 d4 e4 => ?_
    obtain ⟨lo, elo, blo⟩ : ∃ lo : Option Int, subD (.lst [.int b1, .non, .int b2]) (.int x) = some (optD lo) ∧ ∀ i, lo = some i → -10000000000000 ≤ i ∧ i ≤ 10000000000000 := by
      rcases (show x = 0 ∨ x = 1 by omega) with rfl | rfl
      · exact ⟨some b1, rfl, fun i e => by cases e; exact ⟨b1l, b1h⟩⟩
      · exact ⟨none, rfl, fun i e => by cases e⟩
    simp only [cont_lst, ob_some, dv_fz, elo, we_bop, we_int, we_call, wl_cons, wl_nil, we_var, List.getElem?_cons_zero, slV_va]
    refine draw_ok hD d4 (by decide) (by decide) fun y S5 y0 y1 d5 e5 => ?_
    obtain ⟨hi, ehi, bhi⟩ : ∃ hi : Option Int, subD (.lst [.int b1, .non, .int b2]) (.int (1 + y)) = some (optD hi) ∧ ∀ i, hi = some i → -10000000000000 ≤ i ∧ i ≤ 10000000000000 := by
      rcases (show y = 0 ∨ y = 1 by omega) with rfl | rfl
      · exact ⟨none, rfl, fun i e => by cases e⟩
      · exact ⟨some b2, rfl, fun i e => by cases e; exact ⟨b2l, b2h⟩⟩
    simp only [cont_int, ob_some, bop_add, dv_fz, ehi]
    refine ⟨by show 4 ≤ _; decide, ?_⟩
    rw [retO_fz, retQ_rt]
    refine q ts lo hi S5 hts hb (fun b hbm => ?_) d5 ((((e1.trans e2).trans e3).trans e4).trans e5)
    simp only [List.mem_cons, List.not_mem_nil, or_false] at hbm
    rcases hbm with rfl | rfl
    · exact blo
    · exact bhi
end
end Sk

/-! Sk26: rows, ways. -/
namespace Sk
open PySem PySem.Spec
open L2 (ixN atI)
def bigRowsC : List CS := [
  .asg 3 (.call "_law_numbers" [.var 0, .var 2]),
  .asg 4 (.call "_law_draw" [.var 0, .var 1]),
  .asgO 5 (.lst []),
  .for_ (.one 6) (.seq (.var 3))
  [.asgO 7 (.lc (.call "_law_number" [.var 0, .bop .pow (.int 10) (.int 6)]) (.one 8) (.rng (.var 1)) []), .setI (.rd 7) (.var 4) (.var 6), .xpr (.mt .append (.rd 5) [.bf .tuple (.rd 7)])],
  .ret (.bf .tuple (.rd 5))]
def bigWayC : List CS := [
  .asg 2 (.bop .add (.int 1) (.call "_law_draw" [.var 0, .int 21])),
  .asg 3 (.call "_law_numbers" [.var 0, .int 60]),
  .asgO 4 (.lst []),
  .for_ (.one 5) (.rng (.call "_law_many" [.var 0, .int 60]))
  [.xpr (.mt .append (.rd 4) [.tup [.bop .mod (.bop .add (.var 5) (.bop .fdiv (.var 5) (.var 2))) (.var 2), .sub (.var 3) (.bop .fdiv (.var 5) (.var 2)), .call "_law_draw" [.var 0, .int 21]]])],
  .asgO 6 (.lst []),
  .for_ (.one 5) (.rng (.call "_law_many" [.var 0, .int 21]))
  [.xpr (.mt .insert (.rd 6) [.call "_law_draw" [.var 0, .bop .add (.bf .len (.rd 6)) (.int 1)], .bop .mod (.bop .mul (.var 5) (.int 8)) (.int 21)])],
  .ret (.tup [.str "way", .var 1, .bf .tuple (.rd 4), .bf .tuple (.rd 6)])]
theorem seq_tup {ds : List D} : seqD (.tup ds) = some ds := rfl
theorem tup_lst {ds : List D} : bfD .tuple (.lst ds) = some (.fz (.tup ds)) := rfl
theorem app_lst {ds : List D} {x : D} (h : ds.length ≤ 1000) : mtD .append (.lst ds) [x] = some (.non, some (.lst (ds ++ [x]))) := by
  show (if ds.length < sizeLine then _ else none) = _
  rw [if_pos (by have : 1000 < sizeLine := by decide
                 omega)]
section
variable {T : Tab} {k : Nat} (hD : T.F "_law_draw" = some ⟨5, 2, drawC⟩)
include hD
theorem bigRows_ok (hN : T.F "_law_number" = some ⟨3, 2, numberC⟩) (hNs : T.F "_law_numbers" = some ⟨5, 2, numbersC⟩) (hF : T.F "_law_big_rows" = some ⟨9, 3, bigRowsC⟩) {S : Sto} {n m : Nat} {wide many : Int} {Q : Op → Sto → Prop} (hd : Dl S n m)
    (w0 : 1 ≤ wide) (w1 : wide ≤ 100) (m0 : 0 ≤ many) (m1 : many ≤ 60)
    (q : ∀ (rows : List (List Int)) S', rows.length = many.toNat → rows.Nodup → (∀ r ∈ rows, r.length = wide.toNat ∧ ∀ i ∈ r, -1000000 ≤ i ∧ i ≤ 1000000) → Dl S' n m → Dq S S' n m → Q (.fz (.tup (rows.map tupI))) S') :
    WF T (k + 4) "_law_big_rows" [.ref n, .int wide, .int many] S Q := by
  refine wf_def hF rfl ?_
  show WSs T (k + 3) bigRowsC [.va (.ref n), .va (.int wide), .va (.int many), .no, .no, .no, .no, .no, .no] S (retQ Q)
  unfold bigRowsC
  simp only [wss_cons, seqQ_nil, ws_asg, we_call, wl_cons, wl_nil, we_var, List.getElem?_cons_zero, List.getElem?_cons_succ, slV_va, dv_fz]
  refine nums_ok hD hN hNs hd m0 m1 fun is S1 hl hnd hi d1 e1 => ?_
  simp only [dv_fz, seqQ_nx, List.set_cons_succ, List.set_cons_zero, wss_cons, seqQ_nil, ws_asg, we_call, wl_cons, wl_nil, we_var, List.getElem?_cons_zero, List.getElem?_cons_succ, slV_va]
  refine draw_ok hD d1 (by omega) (log_64 (by omega)) fun p S2 p0 p1 d2 e2 => ?_
  simp only [dv_fz, seqQ_nx, List.set_cons_succ, List.set_cons_zero, wss_cons, seqQ_nil, ws_asgO, we_lst, wl_nil, asFr_fr, ws_for, wi_seq, we_var, List.getElem?_cons_zero, List.getElem?_cons_succ, slV_va, seq_tup, ob_some]
  refine ⟨by decide, ?_⟩
  refine wfor_inv (fun r ρ S' => ∃ (rows : List (List Int)) (rest : List Int) (a6 a7 : Sl), r = rest.map .int ∧ rows.map (fun r => r.getD p.toNat 0) ++ rest = is ∧ ρ = [.va (.ref n), .va (.int wide), .va (.int many), .va (tupI is), .va (.int p), .ow (.lst (rows.map tupI)), a6, a7, .no] ∧ (∀ r ∈ rows, r.length = wide.toNat ∧ ∀ i ∈ r, -1000000 ≤ i ∧ i ≤ 1000000) ∧ Dl S' n m ∧ Dq S S' n m)
    ⟨[], is, .no, .no, rfl, rfl, rfl, by simp, d2, e1.trans e2⟩ ?_ ?_
  · rintro d r ρ S3 ⟨rows, rest, a6, a7, er, hr, rfl, hb, d3, e3⟩
    cases rest with
    | nil => cases er
    | cons v rest =>
      rw [List.map_cons] at er
      injection er with er1 er2
      subst er1
      have hv := hi v (by rw [← hr]; simp)
      have lr : rows.length ≤ 60 := by
        have := congrArg List.length hr
        rw [List.length_append, List.length_map] at this
        omega
      show ob (some ([.va (.ref n), .va (.int wide), .va (.int many), .va (tupI is), .va (.int p), .ow (.lst (rows.map tupI)), .va (.int v), a7, .no] : Env')) _
      simp only [ob_some, wss_cons, seqQ_nil, ws_asgO, we_lc, wi_rng, we_var, List.getElem?_cons_zero, List.getElem?_cons_succ, slV_va, asI_int, rng_ok (n := wide) (by omega) (by omega)]
      refine ⟨rfl, ?_⟩
      show WLc T (k + 3) (.one 8) _ [] _ [] [.va (.ref n), .va (.int wide), .va (.int many), .va (tupI is), .va (.int p), .ow (.lst (rows.map tupI)), .va (.int v), a7, .no] S3 _
      refine wlc_inv (fun r acc ρ S' => ρ = [.va (.ref n), .va (.int wide), .va (.int many), .va (tupI is), .va (.int p), .ow (.lst (rows.map tupI)), .va (.int v), a7, .no] ∧ (∃ xs : List Int, acc = xs.map .int ∧ (∀ i ∈ xs, -1000000 ≤ i ∧ i ≤ 1000000) ∧ xs.length + r.length = wide.toNat) ∧ Dl S' n m ∧ Dq S S' n m) ⟨rfl, ⟨[], rfl, by simp, by simp⟩, d3, e3⟩ ?_ ?_
      · rintro d r acc ρ S4 ⟨rfl, ⟨xs, rfl, hx, hxl⟩, d4, e4⟩
        rw [List.length_cons] at hxl
        show ob (some ([.va (.ref n), .va (.int wide), .va (.int many), .va (tupI is), .va (.int p), .ow (.lst (rows.map tupI)), .va (.int v), a7, .va d] : Env')) _
        simp only [ob_some, wc_nil, if_true, we_call, wl_cons, wl_nil, we_var, List.getElem?_cons_zero, slV_va, dv_fz, we_bop, we_int, cont_int, pow_6]
        refine num_ok hD hN d4 (by decide) (by decide) fun i S5 i0 i1 d5 e5 => ?_
        rw [dv_fz]
        refine ⟨by rw [List.length_map]; have := line1m; omega, rfl, ⟨xs ++ [i], by rw [List.map_append]; rfl, fun j hj => ?_, by rw [List.length_append, List.length_singleton]; omega⟩, d5, e4.trans e5⟩
        rcases List.mem_append.mp hj with z | z
        · exact hx j z
        · rw [List.mem_singleton.mp z]; exact ⟨i0, i1⟩
      · rintro acc ρ S4 ⟨rfl, ⟨xs, rfl, hx, hxl⟩, d4, e4⟩
        rw [List.length_nil, Nat.add_zero] at hxl
        have ix : ixN (xs.map D.int).length p = some p.toNat := by
          unfold ixN
          rw [if_pos p0, if_pos (by rw [List.length_map]; omega)]
        have es : (xs.map D.int).set p.toNat (.int v) = (xs.set p.toNat v).map .int := List.map_set.symm
        have g : ∀ x7 S, cont [.va (.ref n), .va (.int wide), .va (.int many), .va (tupI is), .va (.int p), .ow (.lst (rows.map tupI)), .va (.int v), .ow (.lst x7), .no] S (.sl 7) = some (.lst x7) := fun _ _ => cont_ow rfl
        have g' : ∀ x7 S, look [.va (.ref n), .va (.int wide), .va (.int many), .va (tupI is), .va (.int p), .ow (.lst (rows.map tupI)), .va (.int v), .ow (.lst x7), .no] S (.sl 7) = some (.lst x7) := fun _ _ => look_ow rfl
        have s7 : ∀ x7 S d', setC [.va (.ref n), .va (.int wide), .va (.int many), .va (tupI is), .va (.int p), .ow (.lst (rows.map tupI)), .va (.int v), .ow (.lst x7), .no] S (.sl 7) d' = some ([.va (.ref n), .va (.int wide), .va (.int many), .va (tupI is), .va (.int p), .ow (.lst (rows.map tupI)), .va (.int v), .ow d', .no], S) := fun _ _ _ => setC_ow rfl
        have g5 : ∀ x7 S, cont [.va (.ref n), .va (.int wide), .va (.int many), .va (tupI is), .va (.int p), .ow (.lst (rows.map tupI)), .va (.int v), .ow x7, .no] S (.sl 5) = some (.lst (rows.map tupI)) := fun _ _ => cont_ow rfl
        have s5 : ∀ x7 S d', setC [.va (.ref n), .va (.int wide), .va (.int many), .va (tupI is), .va (.int p), .ow (.lst (rows.map tupI)), .va (.int v), .ow x7, .no] S (.sl 5) d' = some ([.va (.ref n), .va (.int wide), .va (.int many), .va (tupI is), .va (.int p), .ow d', .va (.int v), .ow x7, .no], S) := fun _ _ _ => setC_ow rfl
        rw [asFr_fr, seqQ_nx]
        show WSs T (k + 3) _ [.va (.ref n), .va (.int wide), .va (.int many), .va (tupI is), .va (.int p), .ow (.lst (rows.map tupI)), .va (.int v), .ow (.lst (xs.map .int)), .no] S4 _
        simp only [wss_cons, seqQ_nil, ws_setI, we_var, List.getElem?_cons_zero, List.getElem?_cons_succ, slV_va, dv_fz, we_rd, slR_ow, g, ob_some, putC_lst, ix, es, s7, seqQ_nx, ws_xpr, we_mt, g5, wl_cons, wl_nil, we_bf, g', tup_lst, dv_fz, true_and]
        rw [app_lst (by rw [List.length_map]; omega), ob_some, afterM_some, s5, ob_some, turnQ_nx]
        refine ⟨rows ++ [xs.set p.toNat v], rest, _, _, er2, ?_, by rw [List.map_append]; rfl, fun r hr' => ?_, d4, e4⟩
        · rw [List.map_append, List.append_assoc, ← hr]
          congr 1
          show [(xs.set p.toNat v).getD p.toNat 0] ++ rest = v :: rest
          rw [List.getD_eq_getElem?_getD, List.getElem?_set_self (by omega)]
          rfl
        · rcases List.mem_append.mp hr' with z | z
          · exact hb r z
          · rw [List.mem_singleton.mp z]
            refine ⟨by rw [List.length_set]; exact hxl, fun i hii => ?_⟩
            rcases List.mem_or_eq_of_mem_set hii with z | z
            · exact hx i z
            · rw [z]; exact hv
  · rintro ρ S3 ⟨rows, rest, a6, a7, er, hr, rfl, hb, d3, e3⟩
    have hz : rest = [] := by
      cases rest with
      | nil => rfl
      | cons _ _ => cases er
    subst hz
    rw [List.append_nil] at hr
    have lk : ∀ S, look [.va (.ref n), .va (.int wide), .va (.int many), .va (tupI is), .va (.int p), .ow (.lst (rows.map tupI)), a6, a7, .no] S (.sl 5) = some (.lst (rows.map tupI)) := fun _ => look_ow rfl
    simp only [seqQ_nx, wss_cons, seqQ_nil, ws_ret, we_bf, we_rd, List.getElem?_cons_zero, List.getElem?_cons_succ, slR_ow, lk, ob_some, tup_lst, retO_fz, retQ_rt]
    refine q rows S3 ?_ ?_ hb d3 e3
    · rw [← hl, ← hr, List.length_map]
    · rw [← hr] at hnd
      exact List.Pairwise.of_map _ (fun a b h z => h (congrArg (fun r : List Int => r.getD p.toNat 0) z)) hnd

theorem bigWay_ok (hN : T.F "_law_number" = some ⟨3, 2, numberC⟩) (hNs : T.F "_law_numbers" = some ⟨5, 2, numbersC⟩) (hM : T.F "_law_many" = some ⟨2, 2, manyC⟩) (hF : T.F "_law_big_way" = some ⟨7, 2, bigWayC⟩) {S : Sto} {n m : Nat} {cs : List (List Nat)} {Q : Op → Sto → Prop} (hd : Dl S n m)
    (q : ∀ (steps : List (Int × Int × Int)) (ends : List Int) S', Dl S' n m → Dq S S' n m → Q (.fz (Wish.way cs steps ends).d) S') :
    WF T (k + 4) "_law_big_way" [.ref n, tupS cs] S Q := by
  refine wf_def hF rfl ?_
  show WSs T (k + 3) bigWayC [.va (.ref n), .va (tupS cs), .no, .no, .no, .no, .no] S (retQ Q)
  unfold bigWayC
  simp only [wss_cons, seqQ_nil, ws_asg, we_bop, we_int, we_call, wl_cons, wl_nil, we_var, List.getElem?_cons_zero, List.getElem?_cons_succ, slV_va, dv_fz]
  refine draw_ok hD hd (by decide) (by decide) fun s0 S1 a0 a1 d1 e1 => ?_
  generalize hs : 1 + s0 = s
  simp only [cont_int, ob_some, bop_add, hs, dv_fz, seqQ_nx, List.set_cons_succ, List.set_cons_zero, wss_cons, seqQ_nil, ws_asg, we_call, wl_cons, wl_nil, we_var, List.getElem?_cons_zero, List.getElem?_cons_succ, slV_va, we_int]
  refine nums_ok hD hN hNs d1 (by decide) (by decide) fun is S2 hl hnd hi d2 e2 => ?_
  simp only [dv_fz, seqQ_nx, List.set_cons_succ, List.set_cons_zero, wss_cons, seqQ_nil, ws_asgO, we_lst, wl_nil, asFr_fr, ws_for, wi_rng, we_call, wl_cons, we_var, List.getElem?_cons_zero, List.getElem?_cons_succ, slV_va, we_int]
  refine ⟨by decide, many_ok hD hM d2 (by decide) (by decide) fun c S3 c0 c1 d3 e3 => ?_⟩
  rw [asI_int, rng_ok (n := c) (by omega) c0, ob_some]
  have hl' : is.length = 60 := hl
  refine wfor_inv (fun r ρ S' => ∃ (steps : List (Int × Int × Int)) (a5 : Sl), ρ = [.va (.ref n), .va (tupS cs), .va (.int s), .va (tupI is), .ow (.lst (steps.map stepD)), a5, .no] ∧ steps.length ≤ c.toNat ∧ r = ((List.range c.toNat).drop steps.length).map (fun (k : Nat) => D.int (0 + k)) ∧ Dl S' n m ∧ Dq S S' n m)
    ⟨[], .no, rfl, Nat.zero_le _, rfl, d3, (e1.trans e2).trans e3⟩ ?_ ?_
  · rintro d r ρ S4 ⟨steps, a5, rfl, hle, er, d4, e4⟩
    have hlt : steps.length < c.toNat := by
      have := congrArg List.length er
      rw [List.length_cons, List.length_map, List.length_drop, List.length_range] at this
      omega
    rw [List.drop_eq_getElem_cons (by rw [List.length_range]; exact hlt), List.map_cons, List.getElem_range] at er
    injection er with er1 er2
    subst er1
    generalize hj : (0 : Int) + (steps.length : Nat) = j
    have hs1 : 1 ≤ s := by omega
    have hjs : 0 ≤ j / s ∧ j / s < is.length := ⟨Int.ediv_nonneg (by omega) (by omega), by
      have := Int.ediv_le_self s (a := j) (by omega)
      omega⟩
    obtain ⟨g, eg⟩ := atI_get (xs := is.map D.int) hjs.1 (by rw [List.length_map]; exact hjs.2)
    rw [List.length_map] at g
    have eg : subD (tupI is) (.int (j / s)) = some (.int is[(j / s).toNat]) := by
      show atI (is.map D.int) (j / s) = _
      rw [eg, List.getElem_map]
    show ob (some ([.va (.ref n), .va (tupS cs), .va (.int s), .va (tupI is), .ow (.lst (steps.map stepD)), .va (.int j), .no] : Env')) _
    have ct : ∀ S, cont [.va (.ref n), .va (tupS cs), .va (.int s), .va (tupI is), .ow (.lst (steps.map stepD)), .va (.int j), .no] S (.sl 4) = some (.lst (steps.map stepD)) := fun _ => cont_ow rfl
    have sc : ∀ S d', setC [.va (.ref n), .va (tupS cs), .va (.int s), .va (tupI is), .ow (.lst (steps.map stepD)), .va (.int j), .no] S (.sl 4) d' = some ([.va (.ref n), .va (tupS cs), .va (.int s), .va (tupI is), .ow d', .va (.int j), .no], S) := fun _ _ => setC_ow rfl
    have cI : ∀ ρ S, cont ρ S (.fz (tupI is)) = some (tupI is) := fun _ _ => rfl
    simp only [ob_some, wss_cons, seqQ_nil, ws_xpr, we_mt, we_rd, List.getElem?_cons_zero, List.getElem?_cons_succ, slR_ow, ct, wl_cons, wl_nil, we_tup, we_bop, we_var, slV_va, cont_int, bop_fdiv (j := s) ⟨by omega, log_64 (by omega)⟩, bop_add, bop_mod (j := s) (by omega), dv_fz, we_sub, cI, eg, we_call, we_int]
    refine draw_ok hD d4 (by decide) (by decide) fun x S5 x0 x1 d5 e5 => ?_
    simp only [dv_fz, ct, ob_some, true_and]
    refine ⟨by show 3 ≤ _; decide, ?_⟩
    rw [app_lst (by rw [List.length_map]; omega), ob_some, afterM_some, sc, ob_some, turnQ_nx]
    exact ⟨steps ++ [((j + j / s) % s, is[(j / s).toNat], x)], _, by rw [List.map_append]; rfl, by rw [List.length_append, List.length_singleton]; omega, by rw [List.length_append, List.length_singleton]; exact er2, d5, e4.trans e5⟩
  · rintro ρ S4 ⟨steps, a5, rfl, hle, er, d4, e4⟩
    simp only [seqQ_nx, wss_cons, seqQ_nil, ws_asgO, we_lst, wl_nil, asFr_fr, List.set_cons_succ, List.set_cons_zero, ws_for, wi_rng, we_call, wl_cons, we_var, List.getElem?_cons_zero, List.getElem?_cons_succ, slV_va, we_int, dv_fz]
    refine ⟨by decide, many_ok hD hM d4 (by decide) (by decide) fun c' S5 c0' c1' d5 e5 => ?_⟩
    rw [asI_int, rng_ok (n := c') (by omega) c0', ob_some]
    refine wfor_inv (fun r ρ S' => ∃ (ends : List Int) (a5 : Sl), ρ = [.va (.ref n), .va (tupS cs), .va (.int s), .va (tupI is), .ow (.lst (steps.map stepD)), a5, .ow (.lst (ends.map .int))] ∧ ends.length + r.length = c'.toNat ∧ (∃ js : List Nat, r = js.map (fun (k : Nat) => D.int (0 + k))) ∧ Dl S' n m ∧ Dq S S' n m)
      ⟨[], a5, rfl, by simp, ⟨_, rfl⟩, d5, e4.trans e5⟩ ?_ ?_
    · rintro d r ρ S6 ⟨ends, a5, rfl, hle', ⟨js, er'⟩, d6, e6⟩
      cases js with
      | nil => cases er'
      | cons j js =>
        rw [List.map_cons] at er'
        injection er' with er1 er2
        subst er1
        rw [List.length_cons] at hle'
        generalize hj : (0 : Int) + (j : Nat) = jj
        show ob (some ([.va (.ref n), .va (tupS cs), .va (.int s), .va (tupI is), .ow (.lst (steps.map stepD)), .va (.int jj), .ow (.lst (ends.map .int))] : Env')) _
        have ct : ∀ S, cont [.va (.ref n), .va (tupS cs), .va (.int s), .va (tupI is), .ow (.lst (steps.map stepD)), .va (.int jj), .ow (.lst (ends.map .int))] S (.sl 6) = some (.lst (ends.map .int)) := fun _ => cont_ow rfl
        have lk : ∀ S, look [.va (.ref n), .va (tupS cs), .va (.int s), .va (tupI is), .ow (.lst (steps.map stepD)), .va (.int jj), .ow (.lst (ends.map .int))] S (.sl 6) = some (.lst (ends.map .int)) := fun _ => look_ow rfl
        have sc : ∀ S d', setC [.va (.ref n), .va (tupS cs), .va (.int s), .va (tupI is), .ow (.lst (steps.map stepD)), .va (.int jj), .ow (.lst (ends.map .int))] S (.sl 6) d' = some ([.va (.ref n), .va (tupS cs), .va (.int s), .va (tupI is), .ow (.lst (steps.map stepD)), .va (.int jj), .ow d'], S) := fun _ _ => setC_ow rfl
        simp only [ob_some, wss_cons, seqQ_nil, ws_xpr, we_mt, we_rd, List.getElem?_cons_zero, List.getElem?_cons_succ, slR_ow, ct, wl_cons, wl_nil, we_call, we_var, slV_va, dv_fz, we_bop, we_bf, lk, len_lst, List.length_map, we_int, cont_int, bop_add]
        refine draw_ok hD d6 (by omega) (log_64 (by omega)) fun v S7 v0 v1 d7 e7 => ?_
        have ins : ∀ low, mtD .insert (.lst (ends.map .int)) [.int v, .int low] = some (.non, some (.lst ((ends.take v.toNat ++ low :: ends.drop v.toNat).map .int))) := fun low => by
          show (if (ends.map D.int).length < sizeLine ∧ 0 ≤ v ∧ v < 2 ^ 63 then some (D.non, some (D.lst ((ends.map D.int).take v.toNat ++ D.int low :: (ends.map D.int).drop v.toNat))) else none) = _
          rw [if_pos ⟨by rw [List.length_map]; have := line1m; omega, v0, by omega⟩, List.map_append, List.map_take, List.map_cons, List.map_drop]
        simp only [dv_fz, ob_some, cont_int, bop_mulS (j := 8) (by decide), bop_mod (j := 21) (by decide), ct, true_and, ins, afterM_some, sc, turnQ_nx]
        refine ⟨_, _, rfl, ?_, ⟨js, er2⟩, d7, e6.trans e7⟩
        rw [List.length_append, List.length_cons, List.length_take, List.length_drop]
        omega
    · rintro ρ S6 ⟨ends, a5, rfl, _, _, d6, e6⟩
      have l4 : ∀ S, look [.va (.ref n), .va (tupS cs), .va (.int s), .va (tupI is), .ow (.lst (steps.map stepD)), a5, .ow (.lst (ends.map .int))] S (.sl 4) = some (.lst (steps.map stepD)) := fun _ => look_ow rfl
      have l6 : ∀ S, look [.va (.ref n), .va (tupS cs), .va (.int s), .va (tupI is), .ow (.lst (steps.map stepD)), a5, .ow (.lst (ends.map .int))] S (.sl 6) = some (.lst (ends.map .int)) := fun _ => look_ow rfl
      simp only [seqQ_nx, wss_cons, seqQ_nil, ws_ret, we_tup, wl_cons, wl_nil, we_str, dv_fz, we_var, we_bf, we_rd, List.getElem?_cons_zero, List.getElem?_cons_succ, slR_ow, slV_va, l4, l6, ob_some, tup_lst]
      refine ⟨by show 4 ≤ _; decide, ?_⟩
      rw [retO_fz, retQ_rt]
      exact q steps ends S6 d6 e6
end
end Sk

/-! Sk27: wishes within the bounds. -/
namespace Sk
open PySem PySem.Spec
open L2 (ixN atI)
def bigWishTail : List CS := [
  .asg 5 (.sub (.lst [.str "unlike", .str "many", .str "sum", .str "table", .str "way", .str "behind"]) (.call "_law_draw" [.var 0, .int 6])),
  .ret (.tup [.str "same", .sub (.var 1) (.neg (.int 1)), .call "_law_numbers" [.var 0, .call "_law_many" [.var 0, .int 60]], .call "_law_big_wish" [.var 0, .slc (.var 1) none (some (.neg (.int 1))), .var 5]])]
def bigWishC : List CS := [
  .asg 3 (.bf .tuple (.slc (.var 1) none (some (.bop .add (.int 1) (.call "_law_draw" [.var 0, .bf2 .min2 (.int 12) (.bf .len (.var 1))]))))),
  .ife (.cmp .eq (.var 2) (.str "unlike"))
  [.ret (.tup [.str "unlike", .var 3])]
  [],
  .ife (.cmp .eq (.var 2) (.str "many"))
  [.asg 4 (.bf .abs (.call "_law_number" [.var 0, .bop .pow (.int 10) (.int 9)])), .ret (.tup [.str "many", .call "_law_numbers" [.var 0, .call "_law_many" [.var 0, .int 60]], .var 3, .var 4, .bf .abs (.call "_law_number" [.var 0, .bop .pow (.int 10) (.int 9)])])]
  [],
  .ife (.cmp .eq (.var 2) (.str "sum"))
  [.ret (.call "_law_big_sum" [.var 0, .var 3])]
  [],
  .ife (.cmp .eq (.var 2) (.str "table"))
  [.ret (.tup [.str "table", .var 3, .call "_law_big_rows" [.var 0, .bf .len (.var 3), .call "_law_many" [.var 0, .int 60]]])]
  [],
  .ife (.cmp .eq (.var 2) (.str "way"))
  [.ret (.call "_law_big_way" [.var 0, .var 3])]
  [],
  .ife (.cmp .eq (.var 2) (.str "behind"))
  [.ret (.tup [.str "behind", .var 3, .call "_law_number" [.var 0, .bop .pow (.int 10) (.int 9)]])]
  [],
  .asg 5 (.sub (.lst [.str "unlike", .str "many", .str "sum", .str "table", .str "way", .str "behind"]) (.call "_law_draw" [.var 0, .int 6])),
  .ret (.tup [.str "same", .sub (.var 1) (.neg (.int 1)), .call "_law_numbers" [.var 0, .call "_law_many" [.var 0, .int 60]], .call "_law_big_wish" [.var 0, .slc (.var 1) none (some (.neg (.int 1))), .var 5]])]
def six : List Str := ["unlike", "many", "sum", "table", "way", "behind"]
@[simp] theorem cmp_eqS {a b : Str} : cmpD .eq (.str a) (.str b) = some (decide (a = b)) := rfl
theorem abs_int {i : Int} : bfD .abs (.int i) = some (.fz (.int (if i < 0 then -i else i))) := rfl
theorem slc_lst {ds : List D} {p : Nat} : slcD (.lst ds) none (some (p : Int)) = some (.fr (.lst (ds.take p))) := by
  show some (Op.fr (.lst (cutD ds none (some (p : Int))))) = _
  unfold cutD
  rw [HT.sIx_nat, HT.sIx_none, List.drop_zero, Nat.sub_zero]
  by_cases h : p ≤ ds.length
  · rw [Nat.min_eq_left h]
  · rw [Nat.min_eq_right (by omega), List.take_length, List.take_of_length_le (by omega)]
def Wish.cells : Wish → List (List Nat)
  | .unlike cs => cs
  | .many _ cs _ _ => cs
  | .sum ts _ _ => ts.map (·.2)
  | .table cs _ => cs
  | .way cs _ _ => cs
  | .behind cs _ => cs
  | .same c _ w => c :: w.cells
def Wish.deep : Wish → Nat
  | .same _ _ w => w.deep + 1
  | _ => 0
/-- the helpers of wishes -/
structure BigT (T : Tab) : Prop where
  D : T.F "_law_draw" = some ⟨5, 2, drawC⟩
  N : T.F "_law_number" = some ⟨3, 2, numberC⟩
  Ns : T.F "_law_numbers" = some ⟨5, 2, numbersC⟩
  M : T.F "_law_many" = some ⟨2, 2, manyC⟩
  S : T.F "_law_big_sum" = some ⟨6, 2, bigSumC⟩
  R : T.F "_law_big_rows" = some ⟨9, 3, bigRowsC⟩
  W : T.F "_law_big_way" = some ⟨7, 2, bigWayC⟩
  B : T.F "_law_big_wish" = some ⟨6, 3, bigWishC⟩
section
variable {T : Tab} {k : Nat}
theorem bigWishG (B : BigT T) {S : Sto} {n m : Nat} {ns : List (List Nat)} {s : Str} {Q : Op → Sto → Prop} (hd : Dl S n m) (n0 : 1 ≤ ns.length) (n1 : ns.length ≤ 100)
    (q : ∀ (w : Wish) S', (∀ c ∈ w.cells, c ∈ ns) → w.cells.length ≤ 12 → w.deep = 0 → Dl S' n m → Dq S S' n m → Q (.fz w.d) S')
    (qs : s ∉ six → ∀ (cs : List (List Nat)) S', Dl S' n m → Dq S S' n m → WSs T (k + 5) bigWishTail [.va (.ref n), .va (.lst (ns.map strD)), .va (.str s), .va (tupS cs), .no, .no] S' (retQ Q)) :
    WF T (k + 6) "_law_big_wish" [.ref n, .lst (ns.map strD), .str s] S Q := by
  refine wf_def B.B rfl ?_
  show WSs T (k + 5) bigWishC [.va (.ref n), .va (.lst (ns.map strD)), .va (.str s), .no, .no, .no] S (retQ Q)
  unfold bigWishC
  simp only [wss_cons, ws_asg, we_bf, we_slc, we_var, wo_none, wo_some, we_bop, we_int, we_call, wl_cons, wl_nil, we_bf2, List.getElem?_cons_zero, List.getElem?_cons_succ, slV_va, dv_fz, look_int, look_lst, ob_some, len_lst, List.length_map, min2_ok]
  refine draw_ok B.D hd (by split <;> omega) (log_64 (by split <;> omega)) fun v S1 v0 v1 d1 e1 => ?_
  obtain ⟨p, hp⟩ : ∃ p : Nat, 1 + v = (p : Int) := ⟨(1 + v).toNat, by omega⟩
  have p1 : 1 ≤ p := by omega
  have p12 : p ≤ 12 := by
    split at v1 <;> omega
  have tc : ∀ cs : List (List Nat), slcD (.lst (cs.map strD)) none (some (p : Int)) = some (.fr (.lst ((cs.take p).map strD))) := fun cs => by
    rw [List.map_take]
    exact slc_lst
  simp only [cont_int, ob_some, bop_add, hp, asI_int, cont_lst, tc, look_fr, tup_lst, dv_fz, seqQ_nx, List.set_cons_succ, List.set_cons_zero]
  have lc : (ns.take p).length ≤ 12 := by rw [List.length_take]; omega
  have lc1 : 1 ≤ (ns.take p).length := by rw [List.length_take]; omega
  show WSs T (k + 5) _ [.va (.ref n), .va (.lst (ns.map strD)), .va (.str s), .va (tupS (ns.take p)), .no, .no] S1 (retQ Q)
  have hsub : ∀ c ∈ ns.take p, c ∈ ns := fun c hc => List.mem_of_mem_take hc
  generalize ns.take p = cs at lc lc1 hsub
  have lk : ∀ ρ S, look ρ S (.fz (tupS cs)) = some (tupS cs) := fun _ _ => rfl
  have ln : bfD .len (tupS cs) = some (.fz (.int (cs.length : Nat))) := by
    show bfD .len (.tup (cs.map strD)) = _
    rw [len_tup, List.length_map]
  have two : 2 ≤ sizeLine := by decide
  simp only [wss_cons, wss_nil, seqQ_nx, seqQ_nil, ws_ife, we_cmp, we_var, we_str, List.getElem?_cons_zero, List.getElem?_cons_succ, slV_va, look_str, ob_some, cmp_eqS, asB_bl]
  by_cases h1 : s = "unlike"
  · rw [if_pos (decide_eq_true h1)]
    simp only [ws_ret, we_tup, wl_cons, wl_nil, we_str, we_var, List.getElem?_cons_zero, List.getElem?_cons_succ, slV_va, dv_fz]
    refine ⟨by show 2 ≤ _; decide, ?_⟩
    simp only [retO_fz, seqQ_rt, retQ_rt]
    exact q (.unlike cs) S1 hsub lc rfl d1 e1
  rw [if_neg (by simpa using h1)]
  by_cases h2 : s = "many"
  · rw [if_pos (decide_eq_true h2)]
    simp only [ws_asg, we_bf, we_call, wl_cons, wl_nil, we_var, List.getElem?_cons_zero, slV_va, dv_fz, we_bop, we_int, cont_int, ob_some, pow_9]
    refine num_ok B.D B.N d1 (by decide) (by decide) fun a S2 a0 a1 d2 e2 => ?_
    simp only [look_int, ob_some, abs_int, dv_fz, seqQ_nx, wss_cons, seqQ_nil, List.set_cons_succ, List.set_cons_zero, ws_ret, we_tup, wl_cons, wl_nil, we_str, we_call, we_var, List.getElem?_cons_zero, List.getElem?_cons_succ, slV_va, we_int]
    refine many_ok B.D B.M d2 (by decide) (by decide) fun c S3 c0 c1 d3 e3 => ?_
    rw [dv_fz]
    refine nums_ok B.D B.N B.Ns d3 c0 c1 fun is S4 _ _ _ d4 e4 => ?_
    simp only [dv_fz, we_bf, we_call, wl_cons, wl_nil, we_var, List.getElem?_cons_zero, List.getElem?_cons_succ, slV_va, we_bop, we_int, cont_int, ob_some, pow_9]
    refine num_ok B.D B.N d4 (by decide) (by decide) fun b S5 b0 b1 d5 e5 => ?_
    simp only [look_int, ob_some, abs_int, dv_fz]
    refine ⟨by show 5 ≤ _; decide, ?_⟩
    simp only [retO_fz, seqQ_rt, retQ_rt]
    exact q (.many is cs _ _) S5 hsub lc rfl d5 ((((e1.trans e2).trans e3).trans e4).trans e5)
  rw [if_neg (by simpa using h2)]
  by_cases h3 : s = "sum"
  · rw [if_pos (decide_eq_true h3)]
    simp only [ws_ret, we_call, wl_cons, wl_nil, we_var, List.getElem?_cons_zero, List.getElem?_cons_succ, slV_va, dv_fz]
    refine bigSum_ok B.D B.N B.S d1 (by omega) fun ts lo hi S2 hts _ _ d2 e2 => ?_
    simp only [retO_fz, seqQ_rt, retQ_rt]
    have hts' : (Wish.sum ts lo hi).cells = cs.take 6 := hts
    exact q (.sum ts lo hi) S2 (by rw [hts']; exact fun c hc => hsub c (List.mem_of_mem_take hc)) (by rw [hts', List.length_take]; omega) rfl d2 (e1.trans e2)
  rw [if_neg (by simpa using h3)]
  by_cases h4 : s = "table"
  · rw [if_pos (decide_eq_true h4)]
    simp only [ws_ret, we_tup, we_call, wl_cons, wl_nil, we_str, we_var, List.getElem?_cons_zero, List.getElem?_cons_succ, slV_va, dv_fz, we_bf, lk, ob_some, ln, we_int]
    refine many_ok B.D B.M d1 (by decide) (by decide) fun c S3 c0 c1 d3 e3 => ?_
    rw [dv_fz]
    refine bigRows_ok B.D B.N B.Ns B.R d3 (by omega) (by omega) c0 c1 fun rows S4 _ _ _ d4 e4 => ?_
    rw [dv_fz]
    refine ⟨by show 3 ≤ _; decide, ?_⟩
    simp only [retO_fz, seqQ_rt, retQ_rt]
    exact q (.table cs rows) S4 hsub lc rfl d4 ((e1.trans e3).trans e4)
  rw [if_neg (by simpa using h4)]
  by_cases h5 : s = "way"
  · rw [if_pos (decide_eq_true h5)]
    simp only [ws_ret, we_call, wl_cons, wl_nil, we_var, List.getElem?_cons_zero, List.getElem?_cons_succ, slV_va, dv_fz]
    refine bigWay_ok B.D B.N B.Ns B.M B.W d1 fun steps ends S2 d2 e2 => ?_
    simp only [retO_fz, seqQ_rt, retQ_rt]
    exact q (.way cs steps ends) S2 hsub lc rfl d2 (e1.trans e2)
  rw [if_neg (by simpa using h5)]
  by_cases h6 : s = "behind"
  · rw [if_pos (decide_eq_true h6)]
    simp only [ws_ret, we_tup, we_call, wl_cons, wl_nil, we_str, we_var, List.getElem?_cons_zero, List.getElem?_cons_succ, slV_va, dv_fz, we_bop, we_int, cont_int, ob_some, pow_9]
    refine num_ok B.D B.N d1 (by decide) (by decide) fun g S2 _ _ d2 e2 => ?_
    rw [dv_fz]
    refine ⟨by show 3 ≤ _; decide, ?_⟩
    simp only [retO_fz, seqQ_rt, retQ_rt]
    exact q (.behind cs g) S2 hsub lc rfl d2 (e1.trans e2)
  rw [if_neg (by simpa using h6)]
  have := qs (by simp only [six, List.mem_cons, List.not_mem_nil, or_false, not_or]; exact ⟨h1, h2, h3, h4, h5, h6⟩) cs S1 d1 e1
  unfold bigWishTail at this
  rw [wss_cons] at this
  exact this
theorem bigWish_ok (B : BigT T) {S : Sto} {n m : Nat} {ns : List (List Nat)} {s : Str} {Q : Op → Sto → Prop} (hd : Dl S n m) (n0 : 2 ≤ ns.length) (n1 : ns.length ≤ 100)
    (q : ∀ (w : Wish) S', (∀ c ∈ w.cells, c ∈ ns) → w.cells.length ≤ 13 → w.deep ≤ 1 → Dl S' n m → Dq S S' n m → Q (.fz w.d) S') : WF T (k + 7) "_law_big_wish" [.ref n, .lst (ns.map strD), .str s] S Q := by
  refine bigWishG (k := k + 1) B hd (by omega) n1 (fun w S' h1 h2 h3 => q w S' h1 (by omega) (by omega)) fun _ cs S1 d1 e1 => ?_
  have hne : ns ≠ [] := fun z => by rw [z] at n0; simp at n0
  have sl := sub_last hne
  have cut : slcD (.lst (ns.map strD)) none (some (-1)) = some (.fr (.lst (ns.dropLast.map strD))) := by
    show some (Op.fr (.lst (cutD (ns.map strD) none (some (-1))))) = _
    have e : HT.sIx (ns.map strD).length (ns.map strD).length (some (-1)) = ns.length - 1 := by
      rw [List.length_map]
      show (if (-1 : Int) < 0 then ((-1 : Int) + (ns.length : Int)).toNat else min (-1 : Int).toNat ns.length) = _
      rw [if_pos (by decide)]
      omega
    unfold cutD
    rw [e, HT.sIx_none, List.drop_zero, Nat.sub_zero, List.dropLast_eq_take, List.map_take]
  unfold bigWishTail
  simp only [wss_cons, seqQ_nil, ws_asg, we_sub, we_lst, wl_cons, wl_nil, we_str, dv_fz, we_call, we_var, List.getElem?_cons_zero, slV_va, we_int]
  refine ⟨by show 6 ≤ _; decide, draw_ok B.D d1 (by decide) (by decide) fun v S2 v0 v1 d2 e2 => ?_⟩
  obtain ⟨g, eg⟩ := atI_get (xs := six.map D.str) v0 (by exact v1)
  have eg : subD (.lst [.str "unlike", .str "many", .str "sum", .str "table", .str "way", .str "behind"]) (.int v) = some (.str (six[v.toNat]'(by simpa using g))) := by
    show atI (six.map D.str) v = _
    rw [eg, List.getElem_map]
  have hs6 : six[v.toNat]'(by simpa using g) ∈ six := List.getElem_mem _
  generalize six[v.toNat]'(by simpa using g) = s2 at eg hs6
  simp only [cont_fr, ob_some, dv_fz, eg, seqQ_nx, List.set_cons_succ, List.set_cons_zero, wss_cons, seqQ_nil, ws_ret, we_tup, wl_cons, wl_nil, we_str, we_sub, we_var, List.getElem?_cons_zero, List.getElem?_cons_succ, slV_va, we_neg, we_int, asI_int, cont_lst, sl, we_call]
  refine many_ok B.D B.M d2 (by decide) (by decide) fun c S3 c0 c1 d3 e3 => ?_
  rw [dv_fz]
  refine nums_ok B.D B.N B.Ns d3 c0 c1 fun is S4 _ _ _ d4 e4 => ?_
  simp only [dv_fz, we_call, wl_cons, wl_nil, we_var, we_slc, wo_none, wo_some, we_neg, we_int, asI_int, List.getElem?_cons_zero, List.getElem?_cons_succ, slV_va, cont_lst, ob_some, cut, dv_fr]
  refine bigWishG (k := k) B d4 (by rw [List.length_dropLast]; omega) (by rw [List.length_dropLast]; omega) (fun w S5 hw1 hw2 hw3 d5 e5 => ?_) fun z => absurd hs6 z
  rw [dv_fz]
  refine ⟨by show 4 ≤ _; decide, ?_⟩
  rw [retO_fz, retQ_rt]
  refine q (.same (ns.getLast hne) is w) S5 (fun c hc => ?_) (by show w.cells.length + 1 ≤ 13; omega) (by show w.deep + 1 ≤ 1; omega) d5 ((((e1.trans e2).trans e3).trans e4).trans e5)
  rcases List.mem_cons.mp (show c ∈ ns.getLast hne :: w.cells from hc) with z | z
  · rw [z]; exact List.getLast_mem hne
  · exact List.dropLast_subset _ (hw1 c z)
end
end Sk

/-! Sk28: _law_pool. -/
namespace Sk
open PySem PySem.Spec
open L2 (ixN atI)
def poolC : List CS := [
  .asg 1 (.bop .sub (.call "_law_draw" [.var 0, .int 7]) (.int 3)),
  .ife (.cmp .eq (.call "_law_draw" [.var 0, .int 3]) (.int 0))
  [.asg 1 (.bop .sub (.call "_law_draw" [.var 0, .int 1999000]) (.int 999500))]
  [],
  .asgO 2 (.lst []),
  .for_ (.one 3) (.rng (.int 5))
  [.xpr (.mt .append (.rd 2) [.var 1]), .asg 1 (.bop .add (.bop .add (.var 1) (.int 1)) (.sub (.lst [.int 0, .call "_law_draw" [.var 0, .int 4], .int 97]) (.call "_law_draw" [.var 0, .int 3])))],
  .ret (.mv 2)]
section
variable {T : Tab} {k : Nat} (hD : T.F "_law_draw" = some ⟨5, 2, drawC⟩)
include hD
/-- Five whole numbers, each above the one before. -/
theorem pool_ok (hF : T.F "_law_pool" = some ⟨4, 1, poolC⟩) {S : Sto} {n m : Nat} {Q : Op → Sto → Prop} (hd : Dl S n m)
    (q : ∀ (is : List Int) S', is.length = 5 → is.Pairwise (· < ·) → (∀ i ∈ is, -1000000 ≤ i ∧ i ≤ 1000000) → Dl S' n m → Dq S S' n m → Q (.fr (.lst (is.map .int))) S') : WF T (k + 2) "_law_pool" [.ref n] S Q := by
  refine wf_def hF rfl ?_
  show WSs T (k + 1) poolC [.va (.ref n), .no, .no, .no] S (retQ Q)
  unfold poolC
  have hr : rngD 0 5 = some ((List.range 5).map fun (k : Nat) => .int (0 + k)) := by kernel_rfl
  -- from the first number on
  have fin : ∀ (low : Int) S1, -999500 ≤ low → low ≤ 999500 → Dl S1 n m → Dq S S1 n m → WSs T (k + 1) [.asgO 2 (.lst []),
      .for_ (.one 3) (.rng (.int 5))
      [.xpr (.mt .append (.rd 2) [.var 1]), .asg 1 (.bop .add (.bop .add (.var 1) (.int 1)) (.sub (.lst [.int 0, .call "_law_draw" [.var 0, .int 4], .int 97]) (.call "_law_draw" [.var 0, .int 3])))],
      .ret (.mv 2)] [.va (.ref n), .va (.int low), .no, .no] S1 (retQ Q) := fun low S1 b0 b1 d1 e1 => by
    simp only [wss_cons, seqQ_nil, ws_asgO, we_lst, wl_nil, asFr_fr, seqQ_nx, List.set_cons_succ, List.set_cons_zero, ws_for, wi_rng, we_int, asI_int, hr, ob_some]
    refine ⟨by decide, ?_⟩
    refine wfor_inv (fun r ρ S' => ∃ (is : List Int) (low : Int) (a3 : Sl), ρ = [.va (.ref n), .va (.int low), .ow (.lst (is.map .int)), a3] ∧ is.length + r.length = 5 ∧ is.Pairwise (· < ·) ∧ (∀ i ∈ is, -1000000 ≤ i ∧ i < low) ∧ -999500 ≤ low ∧ low ≤ 999500 + 98 * (is.length : Int) ∧ Dl S' n m ∧ Dq S S' n m)
      ⟨[], low, .no, rfl, by simp, List.Pairwise.nil, by simp, b0, by simpa using b1, d1, e1⟩ ?_ ?_
    · rintro d r ρ S2 ⟨is, low, a3, rfl, hl, hnd, hi, l0, l1, d2, e2⟩
      rw [List.length_cons] at hl
      show ob (some ([.va (.ref n), .va (.int low), .ow (.lst (is.map .int)), .va d] : Env')) _
      have ct : cont [.va (.ref n), .va (.int low), .ow (.lst (is.map .int)), .va d] S2 (.sl 2) = some (.lst (is.map .int)) := cont_ow rfl
      have ap : mtD .append (.lst (is.map .int)) [.int low] = some (.non, some (.lst ((is ++ [low]).map .int))) := by
        show (if (is.map D.int).length < sizeLine then _ else none) = _
        rw [if_pos (by rw [List.length_map]; have := line1m; omega), List.map_append]
        rfl
      have sc : setC [.va (.ref n), .va (.int low), .ow (.lst (is.map .int)), .va d] S2 (.sl 2) (.lst ((is ++ [low]).map .int)) = some ([.va (.ref n), .va (.int low), .ow (.lst ((is ++ [low]).map .int)), .va d], S2) := setC_ow rfl
      simp only [ob_some, wss_cons, seqQ_nil, ws_xpr, we_mt, we_rd, List.getElem?_cons_zero, List.getElem?_cons_succ, slR_ow, ct, wl_cons, wl_nil, we_var, slV_va, dv_fz, true_and, ap, afterM_some, sc, seqQ_nx, ws_asg, we_bop, we_int, cont_int, bop_add, we_sub, we_lst, we_call]
      refine draw_ok hD d2 (by decide) (by decide) fun x S4 x0 x1 d4 e4 => ?_
      simp only [dv_fz]
      refine ⟨by show 3 ≤ _; decide, draw_ok hD d4 (by decide) (by decide) fun y S5 y0 y1 d5 e5 => ?_⟩
      obtain ⟨g, eg⟩ := sub_ints (xs := [0, x, 97]) y0 y1
      have eg : subD (.lst [.int 0, .int x, .int 97]) (.int y) = some (.int ([0, x, 97][y.toNat])) := eg
      have hm := List.getElem_mem g
      simp only [cont_fr, ob_some, dv_fz, eg]
      generalize [0, x, 97][y.toNat] = z at hm
      simp only [List.mem_cons, List.not_mem_nil, or_false] at hm
      simp only [cont_int, ob_some, bop_add, dv_fz, turnQ_nx, List.set_cons_succ, List.set_cons_zero]
      refine ⟨is ++ [low], _, _, rfl, by rw [List.length_append, List.length_singleton]; omega, ?_, fun i hii => ?_, by omega, by rw [List.length_append, List.length_singleton]; omega, d5, (e2.trans e4).trans e5⟩
      · rw [List.pairwise_append]
        refine ⟨hnd, List.pairwise_singleton _ _, fun a ha b hb => ?_⟩
        rw [List.mem_singleton.mp hb]
        exact (hi a ha).2
      · rcases List.mem_append.mp hii with z | z
        · have := hi i z; omega
        · rw [List.mem_singleton.mp z]; omega
    · rintro ρ S2 ⟨is, low, a3, rfl, hl, hnd, hi, l0, l1, d2, e2⟩
      simp only [List.length_nil, Nat.add_zero] at hl
      simp only [seqQ_nx, wss_cons, seqQ_nil, ws_ret, we_mv, List.getElem?_cons_zero, List.getElem?_cons_succ]
      exact q is S2 hl hnd (fun i hii => by have := hi i hii; omega) d2 e2
  simp only [wss_cons, seqQ_nil, ws_asg, we_bop, we_call, wl_cons, wl_nil, we_var, List.getElem?_cons_zero, slV_va, dv_fz, we_int]
  refine draw_ok hD hd (by decide) (by decide) fun v S1 v0 v1 d1 e1 => ?_
  simp only [cont_int, ob_some, bop_sub, dv_fz, seqQ_nx, wss_cons, wss_nil, seqQ_nil, ws_ife, we_cmp, we_call, wl_cons, wl_nil, we_var, List.set_cons_succ, List.set_cons_zero, List.getElem?_cons_zero, List.getElem?_cons_succ, slV_va, we_int]
  refine draw_ok hD d1 (by decide) (by decide) fun x S2 x0 x1 d2 e2 => ?_
  simp only [look_int, ob_some, cmp_eqI, asB_bl]
  by_cases c0 : x = 0
  · rw [if_pos (decide_eq_true c0)]
    simp only [ws_asg, we_bop, we_call, wl_cons, wl_nil, we_var, List.getElem?_cons_zero, slV_va, dv_fz, we_int]
    refine draw_ok hD d2 (by decide) (by decide) fun y S3 y0 y1 d3 e3 => ?_
    simp only [cont_int, ob_some, bop_sub, dv_fz, seqQ_nx, List.set_cons_succ, List.set_cons_zero]
    have := fin (y - 999500) S3 (by omega) (by omega) d3 ((e1.trans e2).trans e3)
    simpa only [wss_cons, seqQ_nil] using this
  · rw [if_neg (by simpa using c0)]
    have := fin (v - 3) S2 (by omega) (by omega) d2 (e1.trans e2)
    simpa only [wss_cons, seqQ_nil] using this
end
end Sk

/-! Sk29: dicts whose keys are words. -/
namespace Sk
open PySem PySem.Spec
open L2 (ixN atI)
theorem keq_strD {a b : List Nat} : keq (strD a) (strD b) = decide (a = b) := by
  show decide (st a = st b) = _
  by_cases h : a = b
  · rw [decide_eq_true h, decide_eq_true (by rw [h])]
  · rw [decide_eq_false h, decide_eq_false fun z => h (st_inj z)]
/-- a dict of words: what stands at each -/
def wdD (ps : List (List Nat × D)) : List (D × D) := ps.map fun p => (strD p.1, p.2)
theorem wd_has {ps : List (List Nat × D)} {w : List Nat} : dhas (wdD ps) (strD w) = decide (w ∈ ps.map (·.1)) := by
  unfold dhas wdD
  induction ps with
  | nil => rfl
  | cons p r ih =>
    rw [List.map_cons, List.any_cons, ih, keq_strD, List.map_cons]
    by_cases h : p.1 = w
    · subst h
      rw [decide_eq_true rfl, Bool.true_or]
      exact (decide_eq_true List.mem_cons_self).symm
    · rw [decide_eq_false h, Bool.false_or]
      by_cases g : w ∈ r.map (·.1)
      · rw [decide_eq_true g, decide_eq_true (List.mem_cons_of_mem _ g)]
      · rw [decide_eq_false g, decide_eq_false fun z => (List.mem_cons.mp z).elim (fun z => h z.symm) g]
theorem wd_new {ps : List (List Nat × D)} {w : List Nat} {v : D} (h : w ∉ ps.map (·.1)) : dput (wdD ps) (strD w) v = wdD (ps ++ [(w, v)]) := by
  unfold dput
  rw [wd_has, if_neg (by simpa using h)]
  unfold wdD
  rw [List.map_append]
  rfl
theorem wd_again {ps : List (List Nat × D)} {w : List Nat} {u v : D} (h : w ∉ ps.map (·.1)) : dput (wdD (ps ++ [(w, u)])) (strD w) v = wdD (ps ++ [(w, v)]) := by
  unfold dput
  rw [wd_has, if_pos (by simp)]
  unfold wdD
  rw [List.map_append, List.map_append, List.map_append]
  congr 1
  · rw [List.map_map]
    refine List.map_congr_left fun p hp => ?_
    have : p.1 ≠ w := fun z => h (z ▸ List.mem_map_of_mem hp)
    simp only [Function.comp, keq_strD, decide_eq_false this, Bool.false_eq_true, if_false]
  · simp only [List.map_cons, List.map_nil, keq_strD, decide_true, if_true]
theorem wd_get {ps : List (List Nat × D)} {w : List Nat} {v : D} (hn : (ps.map (·.1)).Nodup) (h : (w, v) ∈ ps) : dget (wdD ps) (strD w) = some v := by
  unfold dget wdD
  induction ps with
  | nil => cases h
  | cons p r ih =>
    rw [List.map_cons, List.nodup_cons] at hn
    rw [List.map_cons, List.find?_cons, keq_strD]
    by_cases g : p.1 = w
    · rw [decide_eq_true g]
      rcases List.mem_cons.mp h with z | z
      · rw [← z]; rfl
      · exact (hn.1 (g ▸ List.mem_map_of_mem z)).elim
    · rw [decide_eq_false g]
      rcases List.mem_cons.mp h with z | z
      · exact (g (by rw [← z])).elim
      · exact ih hn.2 z
theorem wd_none {ps : List (List Nat × D)} {w : List Nat} (h : w ∉ ps.map (·.1)) : dget (wdD ps) (strD w) = none := by
  unfold dget wdD
  induction ps with
  | nil => rfl
  | cons p r ih =>
    rw [List.map_cons, List.mem_cons, not_or] at h
    rw [List.map_cons, List.find?_cons, keq_strD, decide_eq_false fun z => h.1 z.symm]
    exact ih h.2
theorem wd_len {ps : List (List Nat × D)} : (wdD ps).length = ps.length := List.length_map ..
end Sk

/-! Sk30: lists of numbers compared. -/
namespace Sk
open PySem PySem.Spec
open L2 (ixN atI)
theorem toPys_ints {is : List Int} : toPys (is.map .int) = some (is.map PyData.int) := by
  induction is with
  | nil => rfl
  | cons c r ih =>
    show (match toPy (.int c), toPys (r.map .int) with | some x, some xs => some (x :: xs) | _, _ => none) = _
    rw [ih]
    rfl
theorem lay_ints {is : List Int} : PyData.canLayAll0 (is.map PyData.int) = true ∧ PyData.depthAll (is.map PyData.int) = 0 := by
  induction is with
  | nil => exact ⟨rfl, rfl⟩
  | cons c r ih =>
    obtain ⟨i1, i2⟩ := ih
    constructor
    · show (true && PyData.canLayAll0 _) = true
      rw [i1]
      rfl
    · show max 0 (PyData.depthAll _) = 0
      rw [i2]
      rfl
theorem emp_ints {is : List Int} : cmpD .eq (.lst (is.map .int)) (.lst []) = some (decide (is = [])) := by
  obtain ⟨l1, l2⟩ := lay_ints (is := is)
  have tp : toPy (.lst (is.map .int)) = some (.list (is.map PyData.int)) := by
    show (toPys (is.map .int)).map PyData.list = _
    rw [toPys_ints]
    rfl
  have sh : SeqAt.shaped (.list (is.map PyData.int)) = true := by
    show (PyData.canLayAll0 _ && decide (PyData.depthAll _ + 1 ≤ 64)) = true
    rw [l1, l2]
    rfl
  show deq (.lst (is.map .int)) (.lst []) = _
  unfold deq
  dsimp only
  rw [tp]
  have tn : toPy (.lst []) = some (.list []) := rfl
  rw [tn]
  dsimp only
  rw [if_pos ⟨sh, rfl⟩]
  cases is with
  | nil => rfl
  | cons a r => rfl
end Sk

/-! Sk31: _law_rooms. -/
namespace Sk
open PySem PySem.Spec
open L2 (ixN atI)
def roomsC : List CS := [
  .asgO 4 (.dis []),
  .for_ (.one 5) (.seq (.var 1))
  [.asg 6 (.lc (.var 7) (.one 7) (.seq (.var 2)) [.cmp .eq (.call "_law_draw" [.var 0, .int 2]) (.int 1)]), .setI (.rd 4) (.var 5) (.bf .tuple (.slc (.var 6) none (some (.var 3)))), .ife (.cmp .eq (.var 6) (.lst []))
  [.setI (.rd 4) (.var 5) (.tup [.sub (.var 2) (.call "_law_draw" [.var 0, .int 5])])]
  []],
  .ret (.mv 4)]
def roomD (p : List Nat × List Int) : List Nat × D := (p.1, tupI p.2)
section
variable {T : Tab} {k : Nat} (hD : T.F "_law_draw" = some ⟨5, 2, drawC⟩)
include hD
/-- some of the pool's values, in the pool's order -/
theorem pick_ok {S : Sto} {n m : Nat} {a1 a2 a3 a4 a5 a6 : Sl} {is : List Int} {Q : List D → Env' → Sto → Prop} (hd : Dl S n m) (hl : is.length ≤ 1000)
    (q : ∀ (xs : List Int) S', xs.Sublist is → Dl S' n m → Dq S S' n m → Q (xs.map .int) [.va (.ref n), a1, a2, a3, a4, a5, a6, .no] S') :
    WLc T (k + 1) (.one 7) (.var 7) [.cmp .eq (.call "_law_draw" [.var 0, .int 2]) (.int 1)] (is.map .int) [] [.va (.ref n), a1, a2, a3, a4, a5, a6, .no] S Q := by
  refine wlc_inv (fun r acc ρ S' => ρ = [.va (.ref n), a1, a2, a3, a4, a5, a6, .no] ∧ (∃ xs dn rs : List Int, acc = xs.map .int ∧ is = dn ++ rs ∧ r = rs.map .int ∧ xs.Sublist dn) ∧ Dl S' n m ∧ Dq S S' n m) ⟨rfl, ⟨[], [], is, rfl, rfl, rfl, List.Sublist.refl _⟩, hd, .refl⟩ ?_ ?_
  · rintro d r acc ρ S1 ⟨rfl, ⟨xs, dn, rs, rfl, e, er, hs⟩, d1, e1⟩
    cases rs with
    | nil => cases er
    | cons i rs =>
    rw [List.map_cons] at er
    injection er with g1 g2
    subst g1
    show ob (some ([.va (.ref n), a1, a2, a3, a4, a5, a6, .va (.int i)] : Env')) _
    simp only [ob_some, wc_cons, wc_nil, we_cmp, we_call, wl_cons, wl_nil, we_var, List.getElem?_cons_zero, slV_va, dv_fz, we_int]
    refine draw_ok hD d1 (by decide) (by decide) fun v S2 v0 v1 d2 e2 => ?_
    simp only [look_int, ob_some, cmp_eqI, asB_bl]
    have e3 : is = (dn ++ [i]) ++ rs := by rw [e, List.append_assoc]; rfl
    by_cases c : v = 1
    · rw [if_pos (decide_eq_true c), if_pos trivial]
      simp only [List.getElem?_cons_succ, List.getElem?_cons_zero, slV_va]
      have := hs.length_le
      have := congrArg List.length e
      rw [List.length_append, List.length_cons] at this
      refine ⟨by rw [List.length_map]; have := line1m; omega, rfl, ⟨xs ++ [i], dn ++ [i], rs, by rw [List.map_append]; rfl, e3, g2, hs.append (List.Sublist.refl _)⟩, d2, e1.trans e2⟩
    · rw [if_neg (by simpa using c), if_neg Bool.false_ne_true]
      exact ⟨rfl, ⟨xs, dn ++ [i], rs, rfl, e3, g2, hs.trans (List.sublist_append_left ..)⟩, d2, e1.trans e2⟩
  · rintro acc ρ S1 ⟨rfl, ⟨xs, dn, rs, rfl, e, er, hs⟩, d1, e1⟩
    cases rs with
    | cons => cases er
    | nil =>
    rw [List.append_nil] at e
    subst e
    exact q xs S1 hs d1 e1
end
end Sk

/-! Sk32: _law_rooms. -/
namespace Sk
open PySem PySem.Spec
open L2 (ixN atI)
structure RoomOk (pool : List Int) (most : Nat) (r : List Int) : Prop where
  ne : r ≠ []
  le : r.length ≤ most
  sub : r.Sublist pool
section
variable {T : Tab} {k : Nat} (hD : T.F "_law_draw" = some ⟨5, 2, drawC⟩)
include hD
theorem rooms_ok (hF : T.F "_law_rooms" = some ⟨8, 4, roomsC⟩) {S : Sto} {n m most : Nat} {ws : List (List Nat)} {is : List Int} {Q : Op → Sto → Prop} (hd : Dl S n m) (hw : ws.Nodup) (hl : ws.length ≤ 900) (h5 : is.length = 5) (h0 : 1 ≤ most)
    (q : ∀ (ps : List (List Nat × List Int)) S', ps.map (·.1) = ws → (∀ p ∈ ps, RoomOk is most p.2) → Dl S' n m → Dq S S' n m → Q (.fr (.dct (wdD (ps.map roomD)))) S') :
    WF T (k + 2) "_law_rooms" [.ref n, .lst (ws.map strD), .lst (is.map .int), .int (most : Int)] S Q := by
  refine wf_def hF rfl ?_
  show WSs T (k + 1) roomsC [.va (.ref n), .va (.lst (ws.map strD)), .va (.lst (is.map .int)), .va (.int (most : Int)), .no, .no, .no, .no] S (retQ Q)
  unfold roomsC
  have sq : ∀ ds, seqD (.lst ds) = some ds := fun _ => rfl
  simp only [wss_cons, seqQ_nil, ws_asgO, we_dis, wl_nil, pairUp, ob_some, asFr_fr, seqQ_nx, List.set_cons_succ, List.set_cons_zero, List.foldl_nil, ws_for, wi_seq, we_var, List.getElem?_cons_zero, List.getElem?_cons_succ, slV_va, dv_fz, sq]
  refine ⟨⟨by decide, rfl⟩, ?_⟩
  refine wfor_inv (fun r ρ S' => ∃ (ps : List (List Nat × List Int)) (rest : List (List Nat)) (a5 a6 : Sl), ρ = [.va (.ref n), .va (.lst (ws.map strD)), .va (.lst (is.map .int)), .va (.int (most : Int)), .ow (.dct (wdD (ps.map roomD))), a5, a6, .no] ∧ ws = ps.map (·.1) ++ rest ∧ r = rest.map strD ∧ (∀ p ∈ ps, RoomOk is most p.2) ∧ Dl S' n m ∧ Dq S S' n m)
    ⟨[], ws, .no, .no, rfl, rfl, rfl, by simp, hd, .refl⟩ ?_ ?_
  · rintro d r ρ S1 ⟨ps, rest, a5, a6, rfl, e, er, hp, d1, e1⟩
    cases rest with
    | nil => cases er
    | cons w rest =>
    rw [List.map_cons] at er
    injection er with g1 g2
    subst g1
    have hnew : w ∉ (ps.map roomD).map (·.1) := by
      rw [List.map_map]
      have hw := hw
      rw [e, List.nodup_append] at hw
      exact fun z => hw.2.2 w (by simpa [Function.comp, roomD] using z) w List.mem_cons_self rfl
    have hpl : ps.length < 900 := by
      have := congrArg List.length e
      rw [List.length_append, List.length_map, List.length_cons] at this
      omega
    show ob (some ([.va (.ref n), .va (.lst (ws.map strD)), .va (.lst (is.map .int)), .va (.int (most : Int)), .ow (.dct (wdD (ps.map roomD))), .va (strD w), a6, .no] : Env')) _
    simp only [ob_some, wss_cons, seqQ_nil, ws_asg, we_lc, wi_seq, we_var, List.getElem?_cons_zero, List.getElem?_cons_succ, slV_va, dv_fz, sq]
    refine ⟨rfl, ?_⟩
    refine pick_ok hD d1 (by omega) fun xs S2 hs d2 e2 => ?_
    simp only [dv_fr, seqQ_nx]
    show WSs T (k + 1) _ [.va (.ref n), .va (.lst (ws.map strD)), .va (.lst (is.map .int)), .va (.int (most : Int)), .ow (.dct (wdD (ps.map roomD))), .va (strD w), .va (.lst (xs.map .int)), .no] S2 _
    have ct : ∀ kv S, cont [.va (.ref n), .va (.lst (ws.map strD)), .va (.lst (is.map .int)), .va (.int (most : Int)), .ow (.dct kv), .va (strD w), .va (.lst (xs.map .int)), .no] S (.sl 4) = some (.dct kv) := fun _ _ => cont_ow rfl
    have sc : ∀ kv S d', setC [.va (.ref n), .va (.lst (ws.map strD)), .va (.lst (is.map .int)), .va (.int (most : Int)), .ow (.dct kv), .va (strD w), .va (.lst (xs.map .int)), .no] S (.sl 4) d' = some ([.va (.ref n), .va (.lst (ws.map strD)), .va (.lst (is.map .int)), .va (.int (most : Int)), .ow d', .va (strD w), .va (.lst (xs.map .int)), .no], S) := fun _ _ _ => setC_ow rfl
    have ik : isKey (strD w) = true := rfl
    have hz := line1m
    simp only [wss_cons, wss_nil, seqQ_nil, ws_setI, we_bf, we_slc, wo_none, wo_some, asI_int, we_rd, slR_ow, we_var, List.getElem?_cons_zero, List.getElem?_cons_succ, slV_va, cont_lst, ob_some, slc_lst, look_fr, tup_lst, dv_fz, ct, putC_dct, wd_new hnew, sc, seqQ_nx, ws_ife, we_cmp, we_lst, wl_nil, look_lst, emp_ints, asB_bl]
    refine ⟨⟨ik, by rw [wd_len, List.length_map]; omega⟩, ?_⟩
    have e' : ws = (ps ++ [(w, xs.take most)]).map (·.1) ++ rest := by rw [List.map_append, List.append_assoc]; exact e
    have keep : ∀ (r : List Int), RoomOk is most r → ∀ p ∈ ps ++ [(w, r)], RoomOk is most p.2 := fun r hr p hpp => (List.mem_append.mp hpp).elim (hp p) fun z => by rw [List.mem_singleton.mp z]; exact hr
    have mt : ∀ r : List Int, ps.map roomD ++ [(w, tupI r)] = (ps ++ [(w, r)]).map roomD := fun r => by rw [List.map_append]; rfl
    by_cases c : xs = []
    · subst c
      refine ⟨Nat.zero_le _, ?_⟩
      rw [if_pos (decide_eq_true rfl)]
      simp only [we_tup, wl_cons, wl_nil, we_sub, we_call, we_var, List.getElem?_cons_zero, List.getElem?_cons_succ, slV_va, dv_fz, we_int]
      refine draw_ok hD d2 (by decide) (by decide) fun v S3 v0 v1 d3 e3 => ?_
      obtain ⟨g, eg⟩ := sub_ints (xs := is) v0 (by omega)
      have hm := List.getElem_mem g
      generalize is[v.toNat] = i at eg hm
      have wa := wd_again (u := D.tup (List.take most (List.map D.int []))) (v := D.tup [.int i]) hnew
      simp only [cont_lst, ob_some, dv_fz, eg, slR_ow, List.getElem?_cons_zero, List.getElem?_cons_succ, slV_va, ct, putC_dct, wa, sc, turnQ_nx]
      refine ⟨(by show 1 ≤ _; omega), ⟨ik, by rw [wd_len, List.length_append, List.length_map, List.length_singleton]; omega⟩, ?_⟩
      refine ⟨ps ++ [(w, [i])], rest, _, _, by rw [← mt]; rfl, by rw [List.map_append, List.append_assoc]; exact e, g2, keep _ ⟨by simp, h0, List.singleton_sublist.mpr hm⟩, d3, (e1.trans e2).trans e3⟩
    · rw [if_neg (by simpa using c)]
      refine ⟨Nat.zero_le _, ?_⟩
      rw [turnQ_nx, ← List.map_take]
      refine ⟨ps ++ [(w, xs.take most)], rest, _, _, by rw [← mt]; rfl, e', g2, keep _ ⟨fun z => ?_, List.length_take_le .., (List.take_sublist ..).trans hs⟩, d2, e1.trans e2⟩
      have := congrArg List.length z
      have := List.length_pos_iff.mpr c
      rw [List.length_take, List.length_nil] at *
      omega
  · rintro ρ S1 ⟨ps, rest, a5, a6, rfl, e, er, hp, d1, e1⟩
    cases rest with
    | cons => cases er
    | nil =>
    rw [List.append_nil] at e
    simp only [seqQ_nx, wss_cons, seqQ_nil, ws_ret, we_mv, List.getElem?_cons_zero, List.getElem?_cons_succ]
    exact q ps S1 e.symm hp d1 e1
end
end Sk

/-! Sk33: _law_bounds. -/
namespace Sk
open PySem PySem.Spec
open L2 (ixN atI)
def boundsC : List CS := [
  .asg 3 (.bop .add (.var 1) (.call "_law_draw" [.var 0, .bop .add (.bop .sub (.var 2) (.var 1)) (.int 1)])),
  .asg 4 (.bop .add (.var 3) (.call "_law_draw" [.var 0, .bop .add (.bop .sub (.var 2) (.var 3)) (.int 1)])),
  .ret (.sub (.lst [.tup [.var 3, .var 4], .tup [.var 3, .var 3], .tup [.var 3, .non], .tup [.non, .var 4]]) (.call "_law_draw" [.var 0, .int 4]))]
section
variable {T : Tab} {k : Nat} (hD : T.F "_law_draw" = some ⟨5, 2, drawC⟩)
include hD
theorem bounds_ok (hF : T.F "_law_bounds" = some ⟨5, 3, boundsC⟩) {S : Sto} {n m : Nat} {lo hi : Int} {Q : Op → Sto → Prop} (hd : Dl S n m) (h0 : lo ≤ hi) (h1 : -(2 ^ 60) ≤ lo) (h2 : hi ≤ 2 ^ 60)
    (q : ∀ (a b : Option Int) S', (∀ x ∈ a, lo ≤ x ∧ x ≤ hi) → (∀ x ∈ b, lo ≤ x ∧ x ≤ hi) → (∀ x ∈ a, ∀ y ∈ b, x ≤ y) → Dl S' n m → Dq S S' n m → Q (.fz (.tup [optD a, optD b])) S') :
    WF T (k + 2) "_law_bounds" [.ref n, .int lo, .int hi] S Q := by
  refine wf_def hF rfl ?_
  show WSs T (k + 1) boundsC [.va (.ref n), .va (.int lo), .va (.int hi), .no, .no] S (retQ Q)
  unfold boundsC
  simp only [wss_cons, seqQ_nil, ws_asg, we_bop, we_call, wl_cons, wl_nil, we_var, List.getElem?_cons_zero, List.getElem?_cons_succ, slV_va, dv_fz, we_int, cont_int, ob_some, bop_sub, bop_add]
  refine draw_ok hD hd (by omega) (log_64 (by omega)) fun v S1 v0 v1 d1 e1 => ?_
  simp only [dv_fz, cont_int, ob_some, bop_sub, bop_add, seqQ_nx, List.set_cons_succ, List.set_cons_zero, wss_cons, seqQ_nil, ws_asg, we_bop, we_call, wl_cons, wl_nil, we_var, List.getElem?_cons_zero, List.getElem?_cons_succ, slV_va, we_int]
  refine draw_ok hD d1 (by omega) (log_64 (by omega)) fun x S2 x0 x1 d2 e2 => ?_
  simp only [dv_fz, cont_int, ob_some, bop_sub, bop_add, seqQ_nx, List.set_cons_succ, List.set_cons_zero, wss_cons, seqQ_nil, ws_ret, we_sub, we_lst, we_tup, we_call, wl_cons, wl_nil, we_var, we_non, List.getElem?_cons_zero, List.getElem?_cons_succ, slV_va, we_int]
  have hz := line1m
  refine ⟨by show 2 ≤ _; omega, by show 2 ≤ _; omega, by show 2 ≤ _; omega, by show 2 ≤ _; omega, by show 4 ≤ _; omega, draw_ok hD d2 (by decide) (by decide) fun y S3 y0 y1 d3 e3 => ?_⟩
  have e123 := (e1.trans e2).trans e3
  have hy : y = 0 ∨ y = 1 ∨ y = 2 ∨ y = 3 := by omega
  have sb : ∀ a b c d : D, subD (.lst [a, b, c, d]) (.int 0) = some a ∧ subD (.lst [a, b, c, d]) (.int 1) = some b ∧ subD (.lst [a, b, c, d]) (.int 2) = some c ∧ subD (.lst [a, b, c, d]) (.int 3) = some d := fun _ _ _ _ => ⟨rfl, rfl, rfl, rfl⟩
  rcases hy with rfl | rfl | rfl | rfl
  · simp only [cont_fr, ob_some, dv_fz, (sb _ _ _ _).1, retO_fz, retQ_rt]
    exact q (some (lo + v)) (some (lo + v + x)) S3 (by simp; omega) (by simp; omega) (by simp; omega) d3 e123
  · simp only [cont_fr, ob_some, dv_fz, (sb _ _ _ _).2.1, retO_fz, retQ_rt]
    exact q (some (lo + v)) (some (lo + v)) S3 (by simp; omega) (by simp; omega) (by simp) d3 e123
  · simp only [cont_fr, ob_some, dv_fz, (sb _ _ _ _).2.2.1, retO_fz, retQ_rt]
    exact q (some (lo + v)) none S3 (by simp; omega) (by simp) (by simp) d3 e123
  · simp only [cont_fr, ob_some, dv_fz, (sb _ _ _ _).2.2.2, retO_fz, retQ_rt]
    exact q none (some (lo + v + x)) S3 (by simp) (by simp; omega) (by simp) d3 e123
end
end Sk

/-! Sk34: _law_some. -/
namespace Sk
open PySem PySem.Spec
open L2 (ixN atI)
def someC : List CS := [
  .asgO 3 (.bf .list (.var 1)),
  .asgO 4 (.lst []),
  .for_ (.one 5) (.rng (.bop .add (.var 2) (.call "_law_draw" [.var 0, .bop .add (.bop .sub (.bf .len (.rd 3)) (.var 2)) (.int 1)])))
  [.xpr (.mt .append (.rd 4) [.mt .popAt (.rd 3) [.call "_law_draw" [.var 0, .bf .len (.rd 3)]]])],
  .ret (.bf .tuple (.rd 4))]
theorem erase_perm : ∀ (xs : List D) (i : Nat) (h : i < xs.length), (xs[i] :: xs.eraseIdx i).Perm xs
  | [], _, h => (Nat.not_lt_zero _ h).elim
  | _ :: _, 0, _ => .refl _
  | x :: xs, i + 1, h => (List.Perm.swap x (xs[i]'(by simpa using h)) (xs.eraseIdx i)).trans ((erase_perm xs i (by simpa using h)).cons x)
section
variable {T : Tab} {k : Nat} (hD : T.F "_law_draw" = some ⟨5, 2, drawC⟩)
include hD
theorem some_ok (hF : T.F "_law_some" = some ⟨6, 3, someC⟩) {S : Sto} {n m : Nat} {ds : List D} {least : Int} {Q : Op → Sto → Prop} (hd : Dl S n m) (hl : ds.length ≤ 900) (h0 : 0 ≤ least) (h1 : least ≤ ds.length)
    (q : ∀ (fs rest : List D) S', (fs ++ rest).Perm ds → least ≤ fs.length → Dl S' n m → Dq S S' n m → Q (.fz (.tup fs)) S') :
    WF T (k + 2) "_law_some" [.ref n, .lst ds, .int least] S Q := by
  refine wf_def hF rfl ?_
  show WSs T (k + 1) someC [.va (.ref n), .va (.lst ds), .va (.int least), .no, .no, .no] S (retQ Q)
  unfold someC
  have ll : bfD .list (.lst ds) = some (.fr (.lst ds)) := rfl
  have ln : ∀ xs, bfD .len (.lst xs) = some (.fz (.int (xs.length : Nat))) := fun _ => rfl
  have lk : ∀ xs a4 a5 S, look [.va (.ref n), .va (.lst ds), .va (.int least), .ow (.lst xs), a4, a5] S (.sl 3) = some (.lst xs) := fun _ _ _ _ => look_ow rfl
  simp only [wss_cons, seqQ_nil, ws_asgO, we_bf, we_var, List.getElem?_cons_zero, List.getElem?_cons_succ, slV_va, look_lst, ob_some, ll, asFr_fr, seqQ_nx, List.set_cons_succ, List.set_cons_zero, we_lst, wl_nil, ws_for, wi_rng, we_bop, we_call, wl_cons, we_rd, slR_ow, lk, ln, we_int, dv_fz, cont_int, bop_sub, bop_add]
  have hz := line1m
  refine ⟨Nat.zero_le _, draw_ok hD hd (by omega) (log_64 (by omega)) fun v S1 v0 v1 d1 e1 => ?_⟩
  simp only [cont_int, ob_some, bop_add, asI_int, rng_ok (n := least + v) (by omega) (by omega)]
  refine wfor_inv (fun r ρ S' => ∃ (xs fs : List D) (a5 : Sl), ρ = [.va (.ref n), .va (.lst ds), .va (.int least), .ow (.lst xs), .ow (.lst fs), a5] ∧ (fs ++ xs).Perm ds ∧ (fs.length : Int) + r.length = least + v ∧ Dl S' n m ∧ Dq S S' n m)
    ⟨ds, [], .no, rfl, .refl _, by rw [List.length_map, List.length_range, List.length_nil]; omega, d1, e1⟩ ?_ ?_
  · rintro d r ρ S2 ⟨xs, fs, a5, rfl, hp, hr, d2, e2⟩
    rw [List.length_cons] at hr
    have hpl := hp.length_eq
    rw [List.length_append] at hpl
    show ob (some ([.va (.ref n), .va (.lst ds), .va (.int least), .ow (.lst xs), .ow (.lst fs), .va d] : Env')) _
    simp only [ob_some, wss_cons, seqQ_nil, ws_xpr, we_mt, we_rd, List.getElem?_cons_zero, List.getElem?_cons_succ, slR_ow, wl_cons, wl_nil, we_call, we_var, slV_va, dv_fz, we_bf, lk, ln]
    have c3 : ∀ xs fs S, cont [.va (.ref n), .va (.lst ds), .va (.int least), .ow (.lst xs), .ow (.lst fs), .va d] S (.sl 3) = some (.lst xs) := fun _ _ _ => cont_ow rfl
    have c4 : ∀ xs fs S, cont [.va (.ref n), .va (.lst ds), .va (.int least), .ow (.lst xs), .ow (.lst fs), .va d] S (.sl 4) = some (.lst fs) := fun _ _ _ => cont_ow rfl
    have s3 : ∀ xs fs S d', setC [.va (.ref n), .va (.lst ds), .va (.int least), .ow (.lst xs), .ow (.lst fs), .va d] S (.sl 3) d' = some ([.va (.ref n), .va (.lst ds), .va (.int least), .ow d', .ow (.lst fs), .va d], S) := fun _ _ _ _ => setC_ow rfl
    have s4 : ∀ xs fs S d', setC [.va (.ref n), .va (.lst ds), .va (.int least), .ow (.lst xs), .ow (.lst fs), .va d] S (.sl 4) d' = some ([.va (.ref n), .va (.lst ds), .va (.int least), .ow (.lst xs), .ow d', .va d], S) := fun _ _ _ _ => setC_ow rfl
    simp only [c3, c4, ob_some]
    refine draw_ok hD d2 (by omega) (log_64 (by omega)) fun y S3 y0 y1 d3 e3 => ?_
    have hy : y.toNat < xs.length := by omega
    have po : mtD .popAt (.lst xs) [.int y] = some (xs[y.toNat], some (.lst (xs.eraseIdx y.toNat))) := by
      have si : seqIndex? y xs.length = some y.toNat := by unfold seqIndex?; simp; omega
      show (if -(2 ^ 63) ≤ y ∧ y < 2 ^ 63 then (match seqIndex? y xs.length with | some k => xs[k]?.map fun y => (y, some (D.lst (xs.eraseIdx k))) | none => none) else none) = _
      rw [if_pos (by omega), si]
      simp [hy]
    have ap := app_lst (ds := fs) (x := xs[y.toNat]) (by omega)
    simp only [dv_fz, c3, ob_some, true_and, po, afterM_some, s3, c4, ap, s4, turnQ_nx]
    refine ⟨_, _, _, rfl, ?_, by rw [List.length_append, List.length_singleton]; omega, d3, e2.trans e3⟩
    rw [List.append_assoc]
    exact ((erase_perm xs y.toNat hy).append_left fs).trans hp
  · rintro ρ S2 ⟨xs, fs, a5, rfl, hp, hr, d2, e2⟩
    have lk4 : ∀ S, look [.va (.ref n), .va (.lst ds), .va (.int least), .ow (.lst xs), .ow (.lst fs), a5] S (.sl 4) = some (.lst fs) := fun _ => look_ow rfl
    rw [List.length_nil] at hr
    simp only [seqQ_nx, wss_cons, seqQ_nil, ws_ret, we_bf, we_rd, List.getElem?_cons_zero, List.getElem?_cons_succ, slR_ow, lk4, ob_some, tup_lst, retO_fz, retQ_rt]
    exact q fs xs S2 hp (by omega) d2 e2
end
end Sk

/-! SkA: steps made short. -/
namespace Sk
open PySem PySem.Spec
open L2 (ixN atI)

/-! ### places, by the slot -/
def slC : Option Sl → Option D
  | some (.ow d) => some d
  | _ => none
@[simp] theorem slC_ow {d : D} : slC (some (.ow d)) = some d := rfl
theorem cont_sl {ρ : Env'} {S : Sto} {i : Nat} : cont ρ S (.sl i) = slC ρ[i]? := by
  show (match ρ[i]? with | some (.ow d) => some d | _ => none) = _
  cases ρ[i]? with
  | none => rfl
  | some s => cases s <;> rfl
theorem look_sl {ρ : Env'} {S : Sto} {i : Nat} : look ρ S (.sl i) = slC ρ[i]? := by
  unfold look
  rw [cont_sl]
  cases h : slC ρ[i]? <;> rfl
def slS (ρ : Env') (S : Sto) (i : Nat) (x : D) : Option Sl → Option (Env' × Sto)
  | some (.ow _) => some (ρ.set i (.ow x), S)
  | _ => none
@[simp] theorem slS_ow {ρ : Env'} {S : Sto} {i : Nat} {x d : D} : slS ρ S i x (some (.ow d)) = some (ρ.set i (.ow x), S) := rfl
theorem setC_sl {ρ : Env'} {S : Sto} {i : Nat} {x : D} : setC ρ S (.sl i) x = slS ρ S i x ρ[i]? := by
  show (match ρ[i]? with | some (.ow _) => some (ρ.set i (.ow x), S) | _ => none) = _
  cases ρ[i]? with
  | none => rfl
  | some s => cases s <;> rfl

/-! ### operations, with what they ask -/
theorem ob_if {α : Type} {c : Prop} [Decidable c] {a : α} {Q : α → Prop} : ob (if c then some a else none) Q ↔ c ∧ Q a := by
  by_cases h : c
  · rw [if_pos h, ob_some]; exact ⟨fun q => ⟨h, q⟩, fun q => q.2⟩
  · rw [if_neg h, ob_none]; exact ⟨fun q => q.elim, fun q => h q.1⟩
theorem ob_map {α β : Type} {m : Option α} {f : α → β} {Q : β → Prop} : ob (m.map f) Q ↔ ob m fun a => Q (f a) := by
  cases m with
  | none => exact ⟨fun h => (ob_none.mp h).elim, fun h => (ob_none.mp h).elim⟩
  | some a => rw [Option.map_some, ob_some, ob_some]
theorem o_mul {i j : Int} {Q : Op → Prop} : ob (bopD .mul (.int i) (.int j)) Q ↔ mulOk i j ∧ Q (.fz (.int (i * j))) := ob_if
theorem o_fdiv {i j : Int} {Q : Op → Prop} : ob (bopD .fdiv (.int i) (.int j)) Q ↔ divOk j ∧ Q (.fz (.int (i / j))) := ob_if
theorem o_mod {i j : Int} {Q : Op → Prop} : ob (bopD .mod (.int i) (.int j)) Q ↔ 0 < j ∧ Q (.fz (.int (i % j))) := ob_if
theorem o_add {i j : Int} {Q : Op → Prop} : ob (bopD .add (.int i) (.int j)) Q ↔ Q (.fz (.int (i + j))) := ob_some
theorem o_sub {i j : Int} {Q : Op → Prop} : ob (bopD .sub (.int i) (.int j)) Q ↔ Q (.fz (.int (i - j))) := ob_some
theorem o_addL {xs ys : List D} {Q : Op → Prop} : ob (bopD .add (.lst xs) (.lst ys)) Q ↔ xs.length + ys.length ≤ sizeLine ∧ Q (.fr (.lst (xs ++ ys))) := ob_if
theorem o_addT {xs ys : List D} {Q : Op → Prop} : ob (bopD .add (.tup xs) (.tup ys)) Q ↔ xs.length + ys.length ≤ sizeLine ∧ Q (.fz (.tup (xs ++ ys))) := ob_if
theorem o_app {ds : List D} {x : D} {Q : D × Option D → Prop} : ob (mtD .append (.lst ds) [x]) Q ↔ ds.length < sizeLine ∧ Q (.non, some (.lst (ds ++ [x]))) := ob_if
theorem o_ins {ds : List D} {i : Int} {y : D} {Q : D × Option D → Prop} : ob (mtD .insert (.lst ds) [.int i, y]) Q ↔ (ds.length < sizeLine ∧ 0 ≤ i ∧ i < 2 ^ 63) ∧ Q (.non, some (.lst (ds.take i.toNat ++ y :: ds.drop i.toNat))) := ob_if
theorem o_clr {ds : List D} {Q : D × Option D → Prop} : ob (mtD .clear (.lst ds) []) Q ↔ Q (.non, some (.lst [])) := ob_some
theorem o_len {ds : List D} {Q : Op → Prop} : ob (bfD .len (.lst ds)) Q ↔ Q (.fz (.int (ds.length : Nat))) := ob_some
theorem o_lenT {ds : List D} {Q : Op → Prop} : ob (bfD .len (.tup ds)) Q ↔ Q (.fz (.int (ds.length : Nat))) := ob_some
theorem o_lenD {ds : List (D × D)} {Q : Op → Prop} : ob (bfD .len (.dct ds)) Q ↔ Q (.fz (.int (ds.length : Nat))) := ob_some
theorem o_tupL {ds : List D} {Q : Op → Prop} : ob (bfD .tuple (.lst ds)) Q ↔ Q (.fz (.tup ds)) := ob_some
theorem o_tupT {ds : List D} {Q : Op → Prop} : ob (bfD .tuple (.tup ds)) Q ↔ Q (.fz (.tup ds)) := ob_some
theorem o_lstL {ds : List D} {Q : Op → Prop} : ob (bfD .list (.lst ds)) Q ↔ Q (.fr (.lst ds)) := ob_some
theorem o_lstT {ds : List D} {Q : Op → Prop} : ob (bfD .list (.tup ds)) Q ↔ Q (.fr (.lst ds)) := ob_some
theorem o_lstD {ds : List (D × D)} {Q : Op → Prop} : ob (bfD .list (.dct ds)) Q ↔ Q (.fr (.lst (ds.map (·.1)))) := ob_some
theorem o_dctD {ds : List (D × D)} {Q : Op → Prop} : ob (bfD .dict (.dct ds)) Q ↔ Q (.fr (.dct ds)) := ob_some
theorem o_intI {i : Int} {Q : Op → Prop} : ob (bfD .int (.int i)) Q ↔ Q (.fz (.int i)) := ob_some
theorem o_intB {b : Bool} {Q : Op → Prop} : ob (bfD .int (.bl b)) Q ↔ Q (.fz (.int (if b then 1 else 0))) := ob_some
theorem o_abs {i : Int} {Q : Op → Prop} : ob (bfD .abs (.int i)) Q ↔ Q (.fz (.int (if i < 0 then -i else i))) := ob_some
theorem o_max2 {i j : Int} {Q : Op → Prop} : ob (bf2D .max2 (.int i) (.int j)) Q ↔ Q (.fz (.int (if j > i then j else i))) := ob_some
theorem o_min2 {i j : Int} {Q : Op → Prop} : ob (bf2D .min2 (.int i) (.int j)) Q ↔ Q (.fz (.int (if j < i then j else i))) := ob_some
theorem o_sum {xs : List Int} {Q : Op → Prop} : ob (bfD .sum (.lst (xs.map .int))) Q ↔ Q (.fz (.int xs.sum)) := by
  show ob ((intsD (xs.map .int)).map _) Q ↔ _
  rw [ints_of, Option.map_some, ob_some]
theorem o_min {xs : List Int} {Q : Op → Prop} : ob (bfD .min (.lst (xs.map .int))) Q ↔ xs ≠ [] ∧ Q (.fz (.int (minI xs))) := by
  show ob (match intsD (xs.map .int) with | some (n :: r) => some (.fz (.int (minI (n :: r)))) | _ => none) Q ↔ _
  rw [ints_of]
  cases xs with
  | nil => exact ⟨fun h => (ob_none.mp h).elim, fun h => (h.1 rfl).elim⟩
  | cons x r => exact ⟨fun h => ⟨(fun z => by cases z), ob_some.mp h⟩, fun h => ob_some.mpr h.2⟩
theorem o_max {xs : List Int} {Q : Op → Prop} : ob (bfD .max (.lst (xs.map .int))) Q ↔ xs ≠ [] ∧ Q (.fz (.int (maxI xs))) := by
  show ob (match intsD (xs.map .int) with | some (n :: r) => some (.fz (.int (maxI (n :: r)))) | _ => none) Q ↔ _
  rw [ints_of]
  cases xs with
  | nil => exact ⟨fun h => (ob_none.mp h).elim, fun h => (h.1 rfl).elim⟩
  | cons x r => exact ⟨fun h => ⟨(fun z => by cases z), ob_some.mp h⟩, fun h => ob_some.mpr h.2⟩
theorem bls_of (ms : List Bool) : blsD (ms.map .bl) = some ms := by
  induction ms with
  | nil => rfl
  | cons m r ih =>
    show (blsD (r.map .bl)).map (m :: ·) = _
    rw [ih]
    rfl
theorem o_any {xs : List Bool} {Q : Op → Prop} : ob (bfD .any (.lst (xs.map .bl))) Q ↔ Q (.fz (.bl (xs.any id))) := by
  show ob ((blsD (xs.map .bl)).map _) Q ↔ _
  rw [bls_of, Option.map_some, ob_some]
theorem o_all {xs : List Bool} {Q : Op → Prop} : ob (bfD .all (.lst (xs.map .bl))) Q ↔ Q (.fz (.bl (xs.all id))) := by
  show ob ((blsD (xs.map .bl)).map _) Q ↔ _
  rw [bls_of, Option.map_some, ob_some]
theorem o_sorted {xs : List Int} {Q : Op → Prop} : ob (bfD .sorted (.lst (xs.map .int))) Q ↔ Q (.fr (.lst ((isort xs).map .int))) := by
  show ob ((intsD (xs.map .int)).map _) Q ↔ _
  rw [ints_of, Option.map_some, ob_some]

/-! ### items -/
theorem s_tup {ds : List D} {i : Int} : subD (.tup ds) (.int i) = atI ds i := rfl
theorem s_lst {ds : List D} {i : Int} : subD (.lst ds) (.int i) = atI ds i := rfl
theorem atI_lit {α : Type} {xs : List α} {n : Nat} : atI xs (n : Int) = xs[n]? := by
  unfold atI ixN
  rw [if_pos (by omega)]
  by_cases h : (n : Int) < xs.length
  · rw [if_pos h]; rfl
  · rw [if_neg h]
    exact (List.getElem?_eq_none (by omega)).symm
theorem at0 {α : Type} {xs : List α} : atI xs 0 = xs[0]? := atI_lit (n := 0)
theorem at1 {α : Type} {xs : List α} : atI xs 1 = xs[1]? := atI_lit (n := 1)
theorem at2 {α : Type} {xs : List α} : atI xs 2 = xs[2]? := atI_lit (n := 2)
theorem at3 {α : Type} {xs : List α} : atI xs 3 = xs[3]? := atI_lit (n := 3)
theorem at4 {α : Type} {xs : List α} : atI xs 4 = xs[4]? := atI_lit (n := 4)
theorem atm1 {α : Type} {xs : List α} : atI xs (-1) = xs.getLast? := by
  unfold atI ixN
  rw [if_neg (by omega), List.getLast?_eq_getElem?]
  by_cases h : xs.length = 0
  · rw [h, if_neg (by omega)]
    exact (List.getElem?_eq_none (by omega)).symm
  · rw [if_pos (by omega)]
    show xs[((-1 : Int) + xs.length).toNat]? = _
    congr 1
    omega
/-- some item -/
theorem o_some {ds : List D} {v : Int} {Q : D → Prop} (h0 : 0 ≤ v) (h1 : v < ds.length) (q : ∀ d ∈ ds, Q d) : ob (atI ds v) Q := by
  obtain ⟨h, e⟩ := atI_get h0 h1
  rw [e]
  exact ob_some.mpr (q _ (List.getElem_mem h))
theorem o_atMap {α : Type} {xs : List α} {f : α → D} {v : Int} {Q : D → Prop} (h0 : 0 ≤ v) (h1 : v < xs.length) (q : ∀ h : v.toNat < xs.length, Q (f xs[v.toNat])) : ob (atI (xs.map f) v) Q := by
  obtain ⟨h, e⟩ := atI_get h0 (xs := xs.map f) (by rw [List.length_map]; exact h1)
  rw [e]
  rw [List.length_map] at h
  exact ob_some.mpr (by rw [List.getElem_map]; exact q h)
theorem erase_permT {α : Type} : ∀ (xs : List α) (i : Nat) (h : i < xs.length), (xs[i] :: xs.eraseIdx i).Perm xs
  | [], _, h => (Nat.not_lt_zero _ h).elim
  | _ :: _, 0, _ => .refl _
  | x :: xs, i + 1, h => (List.Perm.swap x (xs[i]'(by simpa using h)) (xs.eraseIdx i)).trans ((erase_permT xs i (by simpa using h)).cons x)
theorem o_popAt {α : Type} {xs : List α} {enc : α → D} {y : Int} {Q : D × Option D → Prop} (h0 : 0 ≤ y) (h1 : y < xs.length) (hz : xs.length ≤ 1000000) (q : ∀ h : y.toNat < xs.length, Q (enc xs[y.toNat], some (.lst ((xs.eraseIdx y.toNat).map enc)))) : ob (mtD .popAt (.lst (xs.map enc)) [.int y]) Q := by
  have hy : y.toNat < xs.length := by omega
  have si : seqIndex? y (xs.map enc).length = some y.toNat := by rw [List.length_map]; unfold seqIndex?; simp; omega
  show ob (if -(2 ^ 63) ≤ y ∧ y < 2 ^ 63 then (match seqIndex? y (xs.map enc).length with | some k => (xs.map enc)[k]?.map fun y => (y, some (D.lst ((xs.map enc).eraseIdx k))) | none => none) else none) Q
  rw [if_pos (by omega), si]
  have e : (xs.map enc).eraseIdx y.toNat = (xs.eraseIdx y.toNat).map enc := by
    rw [List.eraseIdx_eq_take_drop_succ, List.eraseIdx_eq_take_drop_succ, List.map_append, List.map_take, List.map_drop]
  simp only [List.getElem?_map, List.getElem?_eq_getElem hy, Option.map_some, e]
  exact ob_some.mpr (q hy)
theorem mem_of_at {α : Type} {xs : List α} {i : Nat} (h : i < xs.length) : xs[i] ∈ xs := List.getElem_mem h

/-! ### loops: the slots that change -/
def setM : List Nat → List Sl → Env' → Env'
  | i :: is, v :: vs, ρ => setM is vs (ρ.set i v)
  | _, _, ρ => ρ
@[simp] theorem setM_cons {i : Nat} {is : List Nat} {v : Sl} {vs : List Sl} {ρ : Env'} : setM (i :: is) (v :: vs) ρ = setM is vs (ρ.set i v) := rfl
@[simp] theorem setM_nil {vs : List Sl} {ρ : Env'} : setM [] vs ρ = ρ := by cases vs <;> rfl
section
variable {T : Tab} {k : Nat} {ρ : Env'} {S : Sto} {P : Out → Prop}
theorem wforM {α : Type} {tg : Tg} {s : List CS} {enc : α → D} {xs : List α} (is : List Nat) (vs : List Sl) (I : List α → List Sl → Sto → Prop) (e0 : setM is vs ρ = ρ) (h0 : I xs vs S)
    (hs : ∀ x r vs S, I (x :: r) vs S → ob (bindT tg (enc x) (setM is vs ρ)) fun ρ1 => WSs T k s ρ1 S (turnQ (fun ρ' S' => ∃ vs', ρ' = setM is vs' ρ ∧ I r vs' S') P))
    (hd : ∀ vs S, I [] vs S → P (.nx (setM is vs ρ) S)) : WFor T k tg s (xs.map enc) ρ S P := by
  refine wfor_inv (fun r ρ' S' => ∃ xr vs', r = xr.map enc ∧ ρ' = setM is vs' ρ ∧ I xr vs' S') ⟨xs, vs, rfl, e0.symm, h0⟩ ?_ ?_
  · rintro d r ρ' S' ⟨xr, vs', er, rfl, hI⟩
    cases xr with
    | nil => cases er
    | cons x xr =>
      rw [List.map_cons] at er
      injection er with e1 e2
      subst e1
      refine sat_mono (hs x xr vs' S' hI) fun ρ1 w => sat_mono w fun o z => ?_
      cases o with
      | nx ρ S => obtain ⟨vs2, h1, h2⟩ := z; exact ⟨xr, vs2, e2, h1, h2⟩
      | ct ρ S => obtain ⟨vs2, h1, h2⟩ := z; exact ⟨xr, vs2, e2, h1, h2⟩
      | bk ρ S => exact z
      | rt o S => exact z
  · rintro ρ' S' ⟨xr, vs', er, rfl, hI⟩
    cases xr with
    | cons x xr => cases er
    | nil => exact hd vs' S' hI
/-- over range(n) -/
theorem wforR {tg : Tg} {s : List CS} {n : Nat} (is : List Nat) (vs : List Sl) (I : Nat → List Sl → Sto → Prop) (e0 : setM is vs ρ = ρ) (h0 : I 0 vs S)
    (hs : ∀ j vs S, j < n → I j vs S → ob (bindT tg (.int (j : Nat)) (setM is vs ρ)) fun ρ1 => WSs T k s ρ1 S (turnQ (fun ρ' S' => ∃ vs', ρ' = setM is vs' ρ ∧ I (j + 1) vs' S') P))
    (hd : ∀ vs S, I n vs S → P (.nx (setM is vs ρ) S)) : WFor T k tg s ((List.range n).map fun (k : Nat) => .int (0 + k)) ρ S P := by
  refine wforM (enc := fun (k : Nat) => D.int (0 + k)) is vs (fun r vs S => ∃ j, j ≤ n ∧ r = (List.range n).drop j ∧ I j vs S) e0 ⟨0, Nat.zero_le _, rfl, h0⟩ ?_ ?_
  · rintro x r vs S ⟨j, hj, er, hI⟩
    have hlt : j < n := by
      have := congrArg List.length er
      rw [List.length_cons, List.length_drop, List.length_range] at this
      omega
    rw [List.drop_eq_getElem_cons (by rw [List.length_range]; exact hlt), List.getElem_range] at er
    injection er with e1 e2
    subst e1
    have := hs x vs S hlt hI
    rw [show (0 : Int) + (x : Nat) = (x : Nat) by omega]
    refine sat_mono this fun ρ1 w => sat_mono w fun o z => ?_
    cases o with
    | nx ρ S => obtain ⟨vs2, h1, h2⟩ := z; exact ⟨vs2, h1, x + 1, hlt, e2, h2⟩
    | ct ρ S => obtain ⟨vs2, h1, h2⟩ := z; exact ⟨vs2, h1, x + 1, hlt, e2, h2⟩
    | bk ρ S => exact z
    | rt o S => exact z
  · rintro vs S ⟨j, hj, er, hI⟩
    have : j = n := by
      have := congrArg List.length er
      rw [List.length_nil, List.length_drop, List.length_range] at this
      omega
    exact hd vs S (this ▸ hI)
theorem wwhM {c : CE} {s : List CS} {n : Nat} (is : List Nat) (vs : List Sl) (I : Nat → List Sl → Sto → Prop) (m : Nat) (hm : m < n) (e0 : setM is vs ρ = ρ) (h0 : I m vs S)
    (hs : ∀ m vs S, I m vs S → WC T k [c] (setM is vs ρ) S fun v ρ1 S1 => if v = true then WSs T k s ρ1 S1 (turnQ (fun ρ' S' => ∃ m' vs', m' < m ∧ ρ' = setM is vs' ρ ∧ I m' vs' S') P) else P (.nx ρ1 S1)) : WWh T k c s n ρ S P := by
  refine wwh_inv (fun m ρ' S' => ∃ vs', ρ' = setM is vs' ρ ∧ I m vs' S') hm ⟨vs, e0.symm, h0⟩ ?_
  rintro m ρ' S' ⟨vs', rfl, hI⟩
  refine sat_mono (hs m vs' S' hI) fun r z => ?_
  obtain ⟨v, ρ1, S1⟩ := r
  cases v with
  | false => exact z
  | true =>
    rw [if_pos rfl] at z ⊢
    refine sat_mono z fun o z => ?_
    cases o with
    | nx ρ S => obtain ⟨m', vs2, h1, h2, h3⟩ := z; exact ⟨m', h1, vs2, h2, h3⟩
    | ct ρ S => obtain ⟨m', vs2, h1, h2, h3⟩ := z; exact ⟨m', h1, vs2, h2, h3⟩
    | bk ρ S => exact z
    | rt o S => exact z
/-- a comprehension: the names as they are, the store by what holds -/
theorem wlcM {α : Type} {tg : Tg} {elt : CE} {cs : List CE} {enc : α → D} {xs : List α} {Q : List D → Env' → Sto → Prop} (I : List α → List D → Sto → Prop) (h0 : I xs [] S)
    (hs : ∀ x r acc S, I (x :: r) acc S → ob (bindT tg (enc x) ρ) fun ρ1 => WC T k cs ρ1 S fun v ρ2 S2 =>
      if v = true then WE T k elt ρ2 S2 fun x ρ3 S3 => dv x fun x => acc.length < sizeLine ∧ wipeT tg.ixs ρ3 = ρ ∧ I r (acc ++ [x]) S3 else wipeT tg.ixs ρ2 = ρ ∧ I r acc S2)
    (hd : ∀ acc S, I [] acc S → Q acc ρ S) : WLc T k tg elt cs (xs.map enc) [] ρ S Q := by
  refine wlc_inv (fun r acc ρ' S' => ∃ xr, r = xr.map enc ∧ ρ' = ρ ∧ I xr acc S') ⟨xs, rfl, rfl, h0⟩ ?_ ?_
  · rintro d r acc ρ' S' ⟨xr, er, rfl, hI⟩
    cases xr with
    | nil => cases er
    | cons x xr =>
      rw [List.map_cons] at er
      injection er with e1 e2
      subst e1
      refine sat_mono (hs x xr acc S' hI) fun ρ1 w => sat_mono w fun q z => ?_
      obtain ⟨v, ρ1, S1⟩ := q
      cases v with
      | false =>
        rw [if_neg Bool.false_ne_true] at z ⊢
        exact ⟨xr, e2, z⟩
      | true =>
        rw [if_pos rfl] at z ⊢
        exact sat_mono z fun q z => sat_mono z fun x z => ⟨z.1, xr, e2, z.2⟩
  · rintro acc ρ' S' ⟨xr, er, rfl, hI⟩
    cases xr with
    | cons x xr => cases er
    | nil => exact hd acc S' hI
/-- .. with slots that change -/
theorem wlcS {α : Type} {tg : Tg} {elt : CE} {cs : List CE} {enc : α → D} {xs : List α} {Q : List D → Env' → Sto → Prop} (is : List Nat) (vs : List Sl) (I : List α → List D → List Sl → Sto → Prop) (e0 : setM is vs ρ = ρ) (h0 : I xs [] vs S)
    (hs : ∀ x r acc vs S, I (x :: r) acc vs S → ob (bindT tg (enc x) (setM is vs ρ)) fun ρ1 => WC T k cs ρ1 S fun v ρ2 S2 =>
      if v = true then WE T k elt ρ2 S2 fun x ρ3 S3 => dv x fun x => acc.length < sizeLine ∧ ∃ vs', wipeT tg.ixs ρ3 = setM is vs' ρ ∧ I r (acc ++ [x]) vs' S3 else ∃ vs', wipeT tg.ixs ρ2 = setM is vs' ρ ∧ I r acc vs' S2)
    (hd : ∀ acc vs S, I [] acc vs S → Q acc (setM is vs ρ) S) : WLc T k tg elt cs (xs.map enc) [] ρ S Q := by
  refine wlc_inv (fun r acc ρ' S' => ∃ xr vs', r = xr.map enc ∧ ρ' = setM is vs' ρ ∧ I xr acc vs' S') ⟨xs, vs, rfl, e0.symm, h0⟩ ?_ ?_
  · rintro d r acc ρ' S' ⟨xr, vs', er, rfl, hI⟩
    cases xr with
    | nil => cases er
    | cons x xr =>
      rw [List.map_cons] at er
      injection er with e1 e2
      subst e1
      refine sat_mono (hs x xr acc vs' S' hI) fun ρ1 w => sat_mono w fun q z => ?_
      obtain ⟨v, ρ1, S1⟩ := q
      cases v with
      | false =>
        rw [if_neg Bool.false_ne_true] at z ⊢
        obtain ⟨vs2, h1, h2⟩ := z
        exact ⟨xr, vs2, e2, h1, h2⟩
      | true =>
        rw [if_pos rfl] at z ⊢
        refine sat_mono z fun q z => sat_mono z fun x z => ?_
        obtain ⟨h0, vs2, h1, h2⟩ := z
        exact ⟨h0, xr, vs2, e2, h1, h2⟩
  · rintro acc ρ' S' ⟨xr, vs', er, rfl, hI⟩
    cases xr with
    | cons x xr => cases er
    | nil => exact hd acc vs' S' hI
/-- .. pure ones -/
theorem wlcP {α : Type} {tg : Tg} {elt : CE} {cs : List CE} {enc : α → D} {xs : List α} {Q : List D → Env' → Sto → Prop} (p : α → Bool) (g : α → D) (hz : xs.length ≤ sizeLine)
    (hs : ∀ x ∈ xs, ob (bindT tg (enc x) ρ) fun ρ1 => WC T k cs ρ1 S fun v ρ2 S2 => v = p x ∧ if p x = true then WE T k elt ρ2 S2 fun o ρ3 S3 => dv o fun d => d = g x ∧ wipeT tg.ixs ρ3 = ρ ∧ S3 = S else wipeT tg.ixs ρ2 = ρ ∧ S2 = S)
    (hd : Q ((xs.filter p).map g) ρ S) : WLc T k tg elt cs (xs.map enc) [] ρ S Q := by
  refine wlcM (fun r acc S' => ∃ dn, xs = dn ++ r ∧ acc = (dn.filter p).map g ∧ S' = S) ⟨[], rfl, rfl, rfl⟩ ?_ ?_
  · rintro x r acc S' ⟨dn, e, rfl, rfl⟩
    have e' : xs = (dn ++ [x]) ++ r := by rw [e, List.append_assoc]; rfl
    have hl : ((dn.filter p).map g).length < sizeLine := by
      rw [List.length_map]
      have h1 := List.length_filter_le p dn
      have h2 := congrArg List.length e
      rw [List.length_append, List.length_cons] at h2
      omega
    refine sat_mono (hs x (by rw [e]; simp)) fun ρ1 w => sat_mono w fun q z => ?_
    obtain ⟨v, ρ2, S2⟩ := q
    obtain ⟨ev, z⟩ := z
    dsimp only at ev z
    subst ev
    cases hp : p x with
    | false =>
      rw [hp, if_neg Bool.false_ne_true] at z
      dsimp only
      rw [if_neg Bool.false_ne_true]
      exact ⟨z.1, dn ++ [x], e', by rw [List.filter_append, List.filter_cons_of_neg (by rw [hp]; exact Bool.false_ne_true), List.filter_nil, List.append_nil], z.2⟩
    | true =>
      rw [hp, if_pos rfl] at z
      dsimp only
      rw [if_pos rfl]
      refine sat_mono z fun q z => sat_mono z fun d z => ?_
      obtain ⟨rfl, h1, h2⟩ := z
      exact ⟨hl, h1, dn ++ [x], e', by rw [List.filter_append, List.filter_cons_of_pos hp, List.filter_nil, List.map_append]; rfl, h2⟩
  · rintro acc S' ⟨dn, e, rfl, rfl⟩
    rw [List.append_nil] at e
    subst e
    exact hd
/-- .. without tests -/
theorem wlcN {α : Type} {tg : Tg} {elt : CE} {enc : α → D} {xs : List α} {Q : List D → Env' → Sto → Prop} (g : α → D) (hz : xs.length ≤ sizeLine)
    (hs : ∀ x ∈ xs, ob (bindT tg (enc x) ρ) fun ρ1 => WE T k elt ρ1 S fun o ρ3 S3 => dv o fun d => d = g x ∧ wipeT tg.ixs ρ3 = ρ ∧ S3 = S)
    (hd : Q (xs.map g) ρ S) : WLc T k tg elt [] (xs.map enc) [] ρ S Q := by
  refine wlcP (fun _ => true) g hz (fun x hx => ?_) (by rw [List.filter_eq_self.mpr fun _ _ => rfl]; exact hd)
  refine sat_mono (hs x hx) fun ρ1 w => ?_
  rw [wc_nil, if_pos rfl]
  exact ⟨rfl, w⟩
end

/-! ### deals: what is known of one, in one -/
def Dk (S0 S : Sto) (n m : Nat) : Prop := Dl S n m ∧ Dq S0 S n m
theorem Dk.mk {S : Sto} {n m : Nat} (h : Dl S n m) : Dk S S n m := ⟨h, .refl⟩
theorem Dk.on {S0 S S1 : Sto} {n m : Nat} (h : Dk S0 S n m) (d : Dl S1 n m) (e : Dq S S1 n m) : Dk S0 S1 n m := ⟨d, h.2.trans e⟩
theorem log_ok {i : Int} (h0 : 0 < i) (h1 : i < 2 ^ 64) : i.natAbs.log2 < 9000 := log_64 (by omega)
theorem drawK {T : Tab} {k : Nat} (hF : T.F "_law_draw" = some ⟨5, 2, drawC⟩) {S0 S : Sto} {n m : Nat} {many : Int} {Q : Op → Sto → Prop} (h : Dk S0 S n m) (h1 : 0 < many) (h2 : many < 2 ^ 64)
    (q : ∀ v S', 0 ≤ v → v < many → Dk S0 S' n m → Q (.fz (.int v)) S') : WF T (k + 1) "_law_draw" [.ref n, .int many] S Q :=
  draw_ok hF h.1 h1 (log_ok h1 h2) fun v S' v0 v1 d e => q v S' v0 v1 (h.on d e)

theorem bt_one {i : Nat} {d : D} {ρ : Env'} : bindT (.one i) d ρ = some (ρ.set i (.va d)) := rfl
theorem bt_many {is : List Nat} {ds : List D} {ρ : Env'} : bindT (.many is) (.tup ds) ρ = setAll is ds ρ := rfl
theorem sa_nil {ρ : Env'} : setAll [] [] ρ = some ρ := rfl
theorem sa_cons {i : Nat} {is : List Nat} {d : D} {ds : List D} {ρ : Env'} : setAll (i :: is) (d :: ds) ρ = setAll is ds (ρ.set i (.va d)) := rfl
theorem wt_nil {ρ : Env'} : wipeT [] ρ = ρ := rfl
theorem wt_cons {i : Nat} {is : List Nat} {ρ : Env'} : wipeT (i :: is) ρ = wipeT is (ρ.set i .no) := rfl
theorem ixs_one {i : Nat} : Tg.ixs (.one i) = [i] := rfl
theorem ixs_many {is : List Nat} : Tg.ixs (.many is) = is := rfl
def back1 (ρ : Env') (i : Nat) (r : Env') : Env' := match ρ[i]? with
  | some s => r.set i s
  | none => r
def putO (i : Nat) (r : Env') : Option Sl → Env'
  | some s => r.set i s
  | none => r
@[simp] theorem putO_some {i : Nat} {r : Env'} {s : Sl} : putO i r (some s) = r.set i s := rfl
theorem bk_nil {ρ r : Env'} : backT [] ρ r = r := rfl
theorem bk_cons {i : Nat} {is : List Nat} {ρ r : Env'} : backT (i :: is) ρ r = backT is ρ (putO i r ρ[i]?) := by
  show List.foldl _ _ _ = List.foldl _ _ _
  rw [List.foldl_cons]
  congr 1
def slN : Option Sl → Bool
  | some (.ow _) => false
  | _ => true
theorem no_nil {ρ : Env'} : noOw [] ρ = true := rfl
theorem no_cons {i : Nat} {is : List Nat} {ρ : Env'} : noOw (i :: is) ρ = (slN ρ[i]? && noOw is ρ) := by
  show List.all (i :: is) _ = _
  rw [List.all_cons]
  congr 1
theorem slN_va {d : D} : slN (some (.va d)) = true := rfl
theorem slN_no : slN (some .no) = true := rfl

end Sk

/-! SkB: dicts by what they hold. -/
namespace Sk
open PySem PySem.Spec
open L2 (ixN atI)
abbrev Nm := List Nat
class KeyEnc (α : Type) [DecidableEq α] where
  enc : α → D
  isK : ∀ a, isKey (enc a) = true
  kq : ∀ a b, keq (enc a) (enc b) = decide (a = b)
instance : KeyEnc (List Nat) := ⟨strD, fun _ => rfl, fun _ _ => keq_strD⟩
instance : KeyEnc Int := ⟨D.int, fun _ => rfl, fun _ _ => rfl⟩
section
variable {α β γ : Type} [DecidableEq α]
def aget : List (α × β) → α → Option β
  | [], _ => none
  | p :: r, k => if p.1 = k then some p.2 else aget r k
def akeys (ps : List (α × β)) : List α := ps.map (·.1)
def aput : List (α × β) → α → β → List (α × β)
  | [], k, v => [(k, v)]
  | p :: r, k, v => if p.1 = k then (p.1, v) :: r else p :: aput r k v
theorem aget_none {ps : List (α × β)} {k : α} : aget ps k = none ↔ k ∉ akeys ps := by
  induction ps with
  | nil => simp [aget, akeys]
  | cons p r ih =>
    unfold aget
    by_cases h : p.1 = k
    · rw [if_pos h]; simp [akeys, h]
    · rw [if_neg h, ih]; simp [akeys, Ne.symm h]
theorem aget_mem {ps : List (α × β)} {k : α} {v : β} (h : aget ps k = some v) : (k, v) ∈ ps := by
  induction ps with
  | nil => cases h
  | cons p r ih =>
    unfold aget at h
    by_cases e : p.1 = k
    · rw [if_pos e] at h
      cases h
      rw [← e]
      exact List.mem_cons_self
    · rw [if_neg e] at h
      exact List.mem_cons_of_mem _ (ih h)
theorem aget_of {ps : List (α × β)} {k : α} {v : β} (hn : (akeys ps).Nodup) (h : (k, v) ∈ ps) : aget ps k = some v := by
  induction ps with
  | nil => cases h
  | cons p r ih =>
    unfold akeys at hn
    rw [List.map_cons, List.nodup_cons] at hn
    unfold aget
    rcases List.mem_cons.mp h with z | z
    · rw [← z, if_pos rfl]
    · have : p.1 ≠ k := fun e => hn.1 (e ▸ List.mem_map_of_mem z)
      rw [if_neg this]
      exact ih hn.2 z
theorem aget_some {ps : List (α × β)} {k : α} (h : k ∈ akeys ps) : ∃ v, aget ps k = some v := by
  cases e : aget ps k with
  | none => exact absurd h (aget_none.mp e)
  | some v => exact ⟨v, rfl⟩
theorem aget_key {ps : List (α × β)} {k : α} {v : β} (h : aget ps k = some v) : k ∈ akeys ps := List.mem_map_of_mem (aget_mem h)
theorem akeys_aput {ps : List (α × β)} {k : α} {v : β} : akeys (aput ps k v) = if k ∈ akeys ps then akeys ps else akeys ps ++ [k] := by
  induction ps with
  | nil => simp [aput, akeys]
  | cons p r ih =>
    unfold aput
    by_cases h : p.1 = k
    · rw [if_pos h]; simp [akeys, h]
    · rw [if_neg h]
      unfold akeys at ih ⊢
      rw [List.map_cons, List.map_cons, ih]
      by_cases g : k ∈ r.map (·.1)
      · rw [if_pos g, if_pos (List.mem_cons_of_mem _ g)]
      · rw [if_neg g, if_neg (by rw [List.mem_cons, not_or]; exact ⟨Ne.symm h, g⟩)]
        rfl
theorem aput_new {ps : List (α × β)} {k : α} {v : β} (h : k ∉ akeys ps) : aput ps k v = ps ++ [(k, v)] := by
  induction ps with
  | nil => rfl
  | cons p r ih =>
    unfold akeys at h
    rw [List.map_cons, List.mem_cons, not_or] at h
    unfold aput
    rw [if_neg (Ne.symm h.1), ih h.2]
    rfl
theorem aget_aput {ps : List (α × β)} {k j : α} {v : β} : aget (aput ps k v) j = if k = j then some v else aget ps j := by
  induction ps with
  | nil => rfl
  | cons p r ih =>
    unfold aput
    by_cases h : p.1 = k
    · rw [if_pos h]
      unfold aget
      dsimp only
      rw [h]
      by_cases g : k = j
      · rw [if_pos g, if_pos g]
      · rw [if_neg g, if_neg g, if_neg g]
    · rw [if_neg h]
      unfold aget
      rw [ih]
      by_cases g : p.1 = j
      · rw [if_pos g, if_pos g, if_neg (fun z => h (g.trans z.symm))]
      · rw [if_neg g, if_neg g]
theorem aput_len {ps : List (α × β)} {k : α} {v : β} : (aput ps k v).length ≤ ps.length + 1 := by
  have h := congrArg List.length (akeys_aput (ps := ps) (k := k) (v := v))
  unfold akeys at h
  rw [List.length_map] at h
  rw [h]
  split
  · rw [List.length_map]; omega
  · rw [List.length_append, List.length_map]; exact Nat.le_refl _
theorem nodup_aput {ps : List (α × β)} {k : α} {v : β} (h : (akeys ps).Nodup) : (akeys (aput ps k v)).Nodup := by
  rw [akeys_aput]
  split
  · exact h
  · rename_i z
    exact List.nodup_append.mpr ⟨h, (by simp), fun a ha b hb e => z (by rw [List.mem_singleton.mp hb] at e; exact e ▸ ha)⟩
variable [KeyEnc α]
/-- a dict, by what it holds -/
def pairsD (f : β → D) (ps : List (α × β)) : List (D × D) := ps.map fun p => (KeyEnc.enc p.1, f p.2)
def mapD (f : β → D) (ps : List (α × β)) : D := .dct (pairsD f ps)
variable {f : β → D}
theorem dget_map {ps : List (α × β)} {k : α} : dget (pairsD f ps) (KeyEnc.enc k) = (aget ps k).map f := by
  unfold dget pairsD
  induction ps with
  | nil => rfl
  | cons p r ih =>
    rw [List.map_cons, List.find?_cons, KeyEnc.kq]
    unfold aget
    by_cases h : p.1 = k
    · rw [decide_eq_true h, if_pos h]; rfl
    · rw [decide_eq_false h, if_neg h]; exact ih
theorem dhas_map {ps : List (α × β)} {k : α} : dhas (pairsD f ps) (KeyEnc.enc k) = decide (k ∈ akeys ps) := by
  unfold dhas pairsD akeys
  induction ps with
  | nil => rfl
  | cons p r ih =>
    rw [List.map_cons, List.any_cons, ih, KeyEnc.kq, List.map_cons]
    by_cases h : p.1 = k
    · subst h
      rw [decide_eq_true rfl, Bool.true_or]
      exact (decide_eq_true List.mem_cons_self).symm
    · rw [decide_eq_false h, Bool.false_or]
      by_cases g : k ∈ r.map (·.1)
      · rw [decide_eq_true g, decide_eq_true (List.mem_cons_of_mem _ g)]
      · rw [decide_eq_false g, decide_eq_false fun z => (List.mem_cons.mp z).elim (fun z => h z.symm) g]
end
section
variable {α β : Type} [DecidableEq α] [KeyEnc α] {f : β → D}
theorem dput_map {ps : List (α × β)} {k : α} {v : β} (hn : (akeys ps).Nodup) : dput (pairsD f ps) (KeyEnc.enc k) (f v) = pairsD f (aput ps k v) := by
  unfold dput
  rw [dhas_map]
  by_cases h : k ∈ akeys ps
  · rw [if_pos (decide_eq_true h)]
    induction ps with
    | nil => cases h
    | cons p r ih =>
      unfold akeys at hn h
      rw [List.map_cons, List.nodup_cons] at hn
      unfold aput pairsD
      rw [List.map_cons, List.map_cons, KeyEnc.kq]
      by_cases e : p.1 = k
      · rw [if_pos (decide_eq_true e), if_pos e, List.map_cons]
        congr 1
        rw [List.map_map]
        refine List.map_congr_left fun q hq => ?_
        have : q.1 ≠ k := fun z => hn.1 (e ▸ z ▸ List.mem_map_of_mem hq)
        simp [KeyEnc.kq, this]
      · rw [if_neg (by simpa using e), if_neg e, List.map_cons]
        congr 1
        refine ih hn.2 ?_
        rw [List.map_cons] at h
        exact (List.mem_cons.mp h).elim (fun z => (e z.symm).elim) id
  · rw [if_neg (by simpa using h), aput_new h]
    unfold pairsD
    rw [List.map_append]
    rfl
theorem s_map {ps : List (α × β)} {k : α} {Q : D → Prop} : ob (subD (mapD f ps) (KeyEnc.enc k)) Q ↔ ob (aget ps k) fun v => Q (f v) := by
  have : subD (mapD f ps) (KeyEnc.enc k) = (aget ps k).map f := by
    rw [← dget_map]
    have hk := KeyEnc.isK k
    cases h : (KeyEnc.enc k) <;> rw [h] at hk <;> first
      | rfl
      | cases hk
  rw [this, ob_map]
theorem p_map {ps : List (α × β)} {k : α} {v : β} {Q : D → Prop} (hn : (akeys ps).Nodup) : putC (f v) (mapD f ps) (KeyEnc.enc k) Q ↔ ps.length < sizeLine ∧ Q (mapD f (aput ps k v)) := by
  unfold mapD
  rw [putC_dct, dput_map hn, KeyEnc.isK]
  unfold pairsD
  rw [List.length_map]
  simp
theorem in_map {ps : List (α × β)} {k : α} : cmpD .inn (KeyEnc.enc k) (mapD f ps) = some (decide (k ∈ akeys ps)) := by
  show (if isKey (KeyEnc.enc k) = true then some (dhas (pairsD f ps) (KeyEnc.enc k)) else none) = _
  rw [if_pos (KeyEnc.isK k), dhas_map]
theorem nin_map {ps : List (α × β)} {k : α} : cmpD .nin (KeyEnc.enc k) (mapD f ps) = some (!decide (k ∈ akeys ps)) := by
  show (if isKey (KeyEnc.enc k) = true then some (dhas (pairsD f ps) (KeyEnc.enc k)) else none).map _ = _
  rw [if_pos (KeyEnc.isK k), dhas_map]
  rfl
theorem mapD_nil : D.dct [] = mapD f ([] : List (α × β)) := rfl
end
theorem s_mapS {β : Type} {f : β → D} {ps : List (Nm × β)} {k : Nm} {Q : D → Prop} : ob (subD (mapD f ps) (strD k)) Q ↔ ob (aget ps k) fun v => Q (f v) := s_map (α := Nm)
theorem p_mapS {β : Type} {f : β → D} {ps : List (Nm × β)} {k : Nm} {v : β} {Q : D → Prop} (hn : (akeys ps).Nodup) : putC (f v) (mapD f ps) (strD k) Q ↔ ps.length < sizeLine ∧ Q (mapD f (aput ps k v)) := p_map (α := Nm) hn
theorem in_mapS {β : Type} {f : β → D} {ps : List (Nm × β)} {k : Nm} : cmpD .inn (strD k) (mapD f ps) = some (decide (k ∈ akeys ps)) := (in_map (α := Nm)).trans (congrArg some (decide_eq_decide.mpr Iff.rfl))
theorem nin_mapS {β : Type} {f : β → D} {ps : List (Nm × β)} {k : Nm} : cmpD .nin (strD k) (mapD f ps) = some (!decide (k ∈ akeys ps)) := (nin_map (α := Nm)).trans (congrArg (fun b => some !b) (decide_eq_decide.mpr Iff.rfl))
theorem s_mapI {β : Type} {f : β → D} {ps : List (Int × β)} {k : Int} {Q : D → Prop} : ob (subD (mapD f ps) (.int k)) Q ↔ ob (aget ps k) fun v => Q (f v) := s_map (α := Int)
theorem p_mapI {β : Type} {f : β → D} {ps : List (Int × β)} {k : Int} {v : β} {Q : D → Prop} (hn : (akeys ps).Nodup) : putC (f v) (mapD f ps) (.int k) Q ↔ ps.length < sizeLine ∧ Q (mapD f (aput ps k v)) := p_map (α := Int) hn
theorem in_mapI {β : Type} {f : β → D} {ps : List (Int × β)} {k : Int} : cmpD .inn (.int k) (mapD f ps) = some (decide (k ∈ akeys ps)) := (in_map (α := Int)).trans (congrArg some (decide_eq_decide.mpr Iff.rfl))
theorem nin_mapI {β : Type} {f : β → D} {ps : List (Int × β)} {k : Int} : cmpD .nin (.int k) (mapD f ps) = some (!decide (k ∈ akeys ps)) := (nin_map (α := Int)).trans (congrArg (fun b => some !b) (decide_eq_decide.mpr Iff.rfl))
@[simp] theorem cont_map {α β : Type} [DecidableEq α] [KeyEnc α] {f : β → D} {ps : List (α × β)} {ρ : Env'} {S : Sto} : cont ρ S (.fz (mapD f ps)) = some (mapD f ps) := rfl
@[simp] theorem look_map {α β : Type} [DecidableEq α] [KeyEnc α] {f : β → D} {ps : List (α × β)} {ρ : Env'} {S : Sto} : look ρ S (.fz (mapD f ps)) = some (mapD f ps) := rfl
@[simp] theorem cont_strD {ρ : Env'} {S : Sto} {w : Nm} : cont ρ S (.fz (strD w)) = some (strD w) := rfl
@[simp] theorem look_strD {ρ : Env'} {S : Sto} {w : Nm} : look ρ S (.fz (strD w)) = some (strD w) := rfl
@[simp] theorem cont_tupI {ρ : Env'} {S : Sto} {w : List Int} : cont ρ S (.fz (tupI w)) = some (tupI w) := rfl
@[simp] theorem look_tupI {ρ : Env'} {S : Sto} {w : List Int} : look ρ S (.fz (tupI w)) = some (tupI w) := rfl
@[simp] theorem cont_tupS {ρ : Env'} {S : Sto} {w : List Nm} : cont ρ S (.fz (tupS w)) = some (tupS w) := rfl
@[simp] theorem look_tupS {ρ : Env'} {S : Sto} {w : List Nm} : look ρ S (.fz (tupS w)) = some (tupS w) := rfl
abbrev Rooms := List (Nm × List Int)
abbrev roomsD (ps : Rooms) : D := mapD tupI ps
theorem asDct_map {α β : Type} [DecidableEq α] [KeyEnc α] {f : β → D} {ps : List (α × β)} : asDct (mapD f ps) = some (pairsD f ps) := rfl
theorem keys_map {α β : Type} [DecidableEq α] [KeyEnc α] {f : β → D} {ps : List (α × β)} : (pairsD f ps).map (·.1) = ps.map fun p => KeyEnc.enc p.1 := by
  unfold pairsD
  rw [List.map_map]
  rfl
theorem vals_map {α β : Type} [DecidableEq α] [KeyEnc α] {f : β → D} {ps : List (α × β)} : (pairsD f ps).map (·.2) = ps.map fun p => f p.2 := by
  unfold pairsD
  rw [List.map_map]
  rfl
theorem items_map {α β : Type} [DecidableEq α] [KeyEnc α] {f : β → D} {ps : List (α × β)} : ((pairsD f ps).map fun p => D.tup [p.1, p.2]) = ps.map fun p => .tup [KeyEnc.enc p.1, f p.2] := by
  unfold pairsD
  rw [List.map_map]
  rfl
theorem rooms_eq {ps : Rooms} : D.dct (wdD (ps.map roomD)) = roomsD ps := by
  unfold roomsD mapD pairsD wdD
  rw [List.map_map]
  rfl
theorem seq_tupI {w : List Int} : seqD (tupI w) = some (w.map .int) := rfl
theorem seq_tupS {w : List Nm} : seqD (tupS w) = some (w.map strD) := rfl
theorem len_tupI {w : List Int} {Q : Op → Prop} : ob (bfD .len (tupI w)) Q ↔ Q (.fz (.int (w.length : Nat))) := by
  show ob (some (Op.fz (.int ((w.map D.int).length : Nat)))) Q ↔ _
  rw [ob_some, List.length_map]
theorem len_tupS {w : List Nm} {Q : Op → Prop} : ob (bfD .len (tupS w)) Q ↔ Q (.fz (.int (w.length : Nat))) := by
  show ob (some (Op.fz (.int ((w.map strD).length : Nat)))) Q ↔ _
  rw [ob_some, List.length_map]
theorem lst_tupI {w : List Int} {Q : Op → Prop} : ob (bfD .list (tupI w)) Q ↔ Q (.fr (.lst (w.map .int))) := ob_some
theorem lst_tupS {w : List Nm} {Q : Op → Prop} : ob (bfD .list (tupS w)) Q ↔ Q (.fr (.lst (w.map strD))) := ob_some
theorem sub_tupI {w : List Int} {i : Int} : subD (tupI w) (.int i) = atI (w.map D.int) i := rfl
theorem sub_tupS {w : List Nm} {i : Int} : subD (tupS w) (.int i) = atI (w.map strD) i := rfl
theorem len_map {α β : Type} [DecidableEq α] [KeyEnc α] {f : β → D} {ps : List (α × β)} {Q : Op → Prop} : ob (bfD .len (mapD f ps)) Q ↔ Q (.fz (.int (ps.length : Nat))) := by
  show ob (some (Op.fz (.int ((pairsD f ps).length : Nat)))) Q ↔ _
  unfold pairsD
  rw [ob_some, List.length_map]
theorem dct_map {α β : Type} [DecidableEq α] [KeyEnc α] {f : β → D} {ps : List (α × β)} {Q : Op → Prop} : ob (bfD .dict (mapD f ps)) Q ↔ Q (.fr (mapD f ps)) := ob_some
theorem lst_map {α β : Type} [DecidableEq α] [KeyEnc α] {f : β → D} {ps : List (α × β)} {Q : Op → Prop} : ob (bfD .list (mapD f ps)) Q ↔ Q (.fr (.lst (ps.map fun p => KeyEnc.enc p.1))) := by
  show ob (some (Op.fr (.lst ((pairsD f ps).map (·.1))))) Q ↔ _
  rw [ob_some, keys_map]
theorem look_one {f : Str} {d : D} : List.lookup f [(f, d)] = some d := by
  rw [List.lookup_cons, beq_self_eq_true]
theorem aug_add {i j : Int} : augD .add (.int i) (.int j) = some (.int (i + j)) := rfl
end Sk

/-! SkC: the texts of the defs that several laws share. -/
namespace Sk
/-- is_between: 3 slots, 3 parameters; 10 laws: k01 k02 k04 k07 k08 k09 k69 k70 k71 k82 -/
def P_is_between : List CS := [
  .ret (.and (.bf (.isa "int") (.var 0)) (.and (.no (.bf (.isa "bool") (.var 0))) (.chn .le .le (.var 1) (.var 0) (.var 2))))]
/-- is_name: 2 slots, 1 parameters; 25 laws: k01 k02 k04 k06 k07 k08 k09 k49 k55 k58 k59 k60 -/
def P_is_name : List CS := [
  .ife (.orr (.no (.bf (.isa "str") (.var 0))) (.orr (.no (.chn .le .le (.int 1) (.bf .len (.var 0)) (.glo "LONGEST"))) (.cmp .inn (.var 0) (.glo "TAKEN"))))
  [.ret (.bl false)]
  [],
  .for_ (.one 1) (.seq (.var 0))
  [.ife (.cmp .nin (.var 1) (.glo "LETTERS"))
  [.ret (.bl false)]
  []],
  .ret (.bl true)]
/-- is_value: 1 slots, 1 parameters; 10 laws: k01 k02 k04 k07 k08 k09 k69 k70 k71 k82 -/
def P_is_value : List CS := [
  .ret (.call "is_between" [.var 0, .bop .sub (.int 0) (.glo "VALUES"), .glo "VALUES"])]
/-- _law_deal: 5 slots, 2 parameters; 74 laws: k01 k02 k03 k04 k05 k06 k07 k08 k09 k10 k11 k12 -/
def L_deal : List CS := [
  .asg 2 (.lc (.bf2 .max2 (.var 3) (.bop .sub (.int 0) (.var 3))) (.one 3) (.seq (.slc (.var 0) (some (.var 1)) (some (.int 63)))) []),
  .asg 4 (.bop .add (.int 7919) (.var 1)),
  .for_ (.one 3) (.seq (.var 2))
  [.asg 4 (.bop .mod (.bop .add (.bop .mul (.var 4) (.int 69621)) (.var 3)) (.int 2147483647))],
  .ret (.dis [.str "mixed", .bop .mod (.bf .sum (.slc (.var 0) none (some (.int 1)))) (.int 2), .str "seed", .var 4, .str "number", .int 0, .str "left", .al (.lrev (.var 2))])]
/-- _law_draw: 5 slots, 2 parameters; 74 laws: k01 k02 k03 k04 k05 k06 k07 k08 k09 k10 k11 k12 -/
def L_draw : List CS := [
  .whl (.and (.cmp .eq (.sub (.var 0) (.str "number")) (.int 0)) (.and (.cmp .gt (.bf .len (.sub (.var 0) (.str "left"))) (.int 0)) (.cmp .eq (.sub (.var 0) (.str "mixed")) (.int 0))))
  [.setI (.var 0) (.str "number") (.mt .pop (.sub (.var 0) (.str "left")) [])],
  .asg 2 (.sub (.var 0) (.str "number")),
  .ife (.cmp .gt (.var 2) (.int 0))
  [.setI (.var 0) (.str "number") (.bop .fdiv (.var 2) (.var 1)), .ret (.bop .mod (.var 2) (.var 1))]
  [],
  .asg 3 (.bop .mod (.bop .add (.bop .mul (.sub (.var 0) (.str "seed")) (.int 48271)) (.int 7919)) (.int 2147483647)),
  .setI (.var 0) (.str "seed") (.bop .mod (.bop .add (.bop .mul (.var 3) (.int 40692)) (.int 104729)) (.int 2147483399)),
  .asg 4 (.bop .mod (.bop .mul (.sub (.var 0) (.str "seed")) (.sub (.var 0) (.str "seed"))) (.int 2147483563)),
  .ret (.bop .mod (.bop .add (.bop .mul (.bop .mod (.bop .mul (.var 3) (.var 3)) (.int 2147483629)) (.int 2147483563)) (.var 4)) (.var 1))]
/-- _law_text: 9 slots, 2 parameters; 3 laws: k69 k70 k71 -/
def L_text : List CS := [
  .asgO 2 (.lc (.bop .add (.lst [.str "cell", .var 3]) (.call "_law_words" [.var 4])) (.many [3, 4]) (.seq (.sub (.var 1) (.int 0))) []),
  .asgO 5 (.lc (.call "_law_wish_words" [.var 6]) (.one 6) (.seq (.sub (.var 1) (.int 1))) []),
  .asgO 7 (.lst []),
  .whl (.orr (.cmp .ne (.rd 2) (.lst [])) (.cmp .ne (.rd 5) (.lst [])))
  [.ife (.orr (.cmp .eq (.rd 5) (.lst [])) (.and (.cmp .ne (.rd 2) (.lst [])) (.cmp .gt (.call "_law_draw" [.var 0, .int 3]) (.int 0))))
  [.asg 8 (.mt .popAt (.rd 2) [.int 0])]
  [.asg 8 (.mt .popAt (.rd 5) [.int 0])], .xpr (.mt .append (.rd 7) [.bop .add (.mt .join (.str " ") [.var 8]) (.sub (.lst [.str "", .str " ", .str " # cell b 1"]) (.call "_law_draw" [.var 0, .int 3]))]), .asgO 7 (.bop .add (.rd 7) (.bop .mul (.lst [.sub (.lst [.str "", .str "  "]) (.call "_law_draw" [.var 0, .int 2])]) (.bf .int (.cmp .eq (.call "_law_draw" [.var 0, .int 5]) (.int 1)))))],
  .ret (.mt .join (.str "\n") [.mv 7])]
/-- _law_number: 3 slots, 2 parameters; 6 laws: k02 k03 k04 k06 k07 k09 -/
def L_number : List CS := [
  .asg 2 (.call "_law_draw" [.var 0, .int 3]),
  .ife (.cmp .eq (.var 2) (.int 0))
  [.ret (.bop .sub (.call "_law_draw" [.var 0, .int 9]) (.int 4))]
  [],
  .ife (.cmp .eq (.var 2) (.int 1))
  [.ret (.sub (.lst [.var 1, .neg (.var 1), .bop .sub (.var 1) (.int 1), .bop .sub (.int 1) (.var 1)]) (.call "_law_draw" [.var 0, .int 4]))]
  [],
  .ret (.bop .sub (.call "_law_draw" [.var 0, .bop .add (.bop .mul (.int 2) (.var 1)) (.int 1)]) (.var 1))]
/-- _law_number: 5 slots, 2 parameters; 6 laws: k58 k59 k60 k61 k64 k65 -/
def L_number_k58 : List CS := [
  .asg 2 (.int 0),
  .for_ (.one 3) (.seq (.call "_law_fillings" [.bf .list (.sub (.var 1) (.int 0)), .sub (.var 1) (.int 0)]))
  [.ife (.bf .all (.lc (.call "_law_kept" [.sub (.sub (.var 0) (.int 1)) (.var 4), .var 3]) (.one 4) (.seq (.sub (.var 1) (.int 1))) []))
  [.asg 2 (.bop .add (.var 2) (.int 1))]
  []],
  .ret (.var 2)]
/-- is_state: 1 slots, 1 parameters; 9 laws: k02 k04 k07 k08 k09 k69 k70 k71 k82 -/
def P_is_state : List CS := [
  .ret (.call "is_between" [.var 0, .int 0, .glo "MOST_STATE"])]
/-- is_bound: 1 slots, 1 parameters; 9 laws: k02 k04 k07 k08 k09 k69 k70 k71 k82 -/
def P_is_bound : List CS := [
  .ret (.orr (.cmp .is (.var 0) (.non)) (.call "is_between" [.var 0, .bop .sub (.int 0) (.glo "SUMS"), .glo "SUMS"]))]
/-- are_unlike: 1 slots, 1 parameters; 9 laws: k02 k04 k07 k08 k09 k69 k70 k71 k82 -/
def P_are_unlike : List CS := [
  .ret (.cmp .eq (.bf .lenset (.var 0)) (.bf .len (.var 0)))]
/-- are_names: 1 slots, 1 parameters; 9 laws: k02 k04 k07 k08 k09 k69 k70 k71 k82 -/
def P_are_names : List CS := [
  .ret (.and (.call "are_each" [.var 0, .glo "is_name", .int 1, .glo "MOST_CELLS"]) (.call "are_unlike" [.var 0]))]
/-- are_values: 1 slots, 1 parameters; 9 laws: k02 k04 k07 k08 k09 k69 k70 k71 k82 -/
def P_are_values : List CS := [
  .ret (.and (.call "are_each" [.var 0, .glo "is_value", .int 0, .glo "MOST_VALUES"]) (.call "are_unlike" [.var 0]))]
/-- is_term: 1 slots, 1 parameters; 9 laws: k02 k04 k07 k08 k09 k69 k70 k71 k82 -/
def P_is_term : List CS := [
  .ret (.and (.bf (.isa "tuple") (.var 0)) (.and (.cmp .eq (.bf .len (.var 0)) (.int 2)) (.and (.call "is_value" [.sub (.var 0) (.int 0)]) (.and (.cmp .ne (.sub (.var 0) (.int 0)) (.int 0)) (.call "is_name" [.sub (.var 0) (.int 1)])))))]
/-- is_step: 1 slots, 1 parameters; 9 laws: k02 k04 k07 k08 k09 k69 k70 k71 k82 -/
def P_is_step : List CS := [
  .ife (.orr (.no (.bf (.isa "tuple") (.var 0))) (.cmp .ne (.bf .len (.var 0)) (.int 3)))
  [.ret (.bl false)]
  [],
  .ret (.and (.call "is_state" [.sub (.var 0) (.int 0)]) (.and (.call "is_value" [.sub (.var 0) (.int 1)]) (.call "is_state" [.sub (.var 0) (.int 2)])))]
/-- is_many: 1 slots, 1 parameters; 9 laws: k02 k04 k07 k08 k09 k69 k70 k71 k82 -/
def P_is_many : List CS := [
  .ife (.orr (.no (.call "are_values" [.sub (.var 0) (.int 1)])) (.no (.call "are_names" [.sub (.var 0) (.int 2)])))
  [.ret (.bl false)]
  [],
  .ret (.and (.call "is_between" [.sub (.var 0) (.int 3), .int 0, .glo "GAPS"]) (.call "is_between" [.sub (.var 0) (.int 4), .int 0, .glo "GAPS"]))]
/-- is_sum: 2 slots, 1 parameters; 9 laws: k02 k04 k07 k08 k09 k69 k70 k71 k82 -/
def P_is_sum : List CS := [
  .ife (.orr (.no (.call "are_each" [.sub (.var 0) (.int 1), .glo "is_term", .int 1, .glo "MOST_TERMS"])) (.no (.call "are_unlike" [.lc (.sub (.var 1) (.int 1)) (.one 1) (.seq (.sub (.var 0) (.int 1))) []])))
  [.ret (.bl false)]
  [],
  .ret (.and (.call "is_bound" [.sub (.var 0) (.int 2)]) (.call "is_bound" [.sub (.var 0) (.int 3)]))]
/-- is_way: 2 slots, 1 parameters; 9 laws: k02 k04 k07 k08 k09 k69 k70 k71 k82 -/
def P_is_way : List CS := [
  .ife (.orr (.no (.call "are_names" [.sub (.var 0) (.int 1)])) (.no (.call "are_each" [.sub (.var 0) (.int 2), .glo "is_step", .int 0, .glo "MOST_ROWS"])))
  [.ret (.bl false)]
  [],
  .ife (.no (.call "are_unlike" [.lc (.slc (.var 1) none (some (.int 2))) (.one 1) (.seq (.sub (.var 0) (.int 2))) []]))
  [.ret (.bl false)]
  [],
  .ret (.and (.call "are_each" [.sub (.var 0) (.int 3), .glo "is_state", .int 0, .bop .add (.glo "MOST_STATE") (.int 1)]) (.call "are_unlike" [.sub (.var 0) (.int 3)]))]
/-- is_same: 1 slots, 1 parameters; 9 laws: k02 k04 k07 k08 k09 k69 k70 k71 k82 -/
def P_is_same : List CS := [
  .ife (.orr (.no (.call "is_name" [.sub (.var 0) (.int 1)])) (.orr (.no (.call "are_values" [.sub (.var 0) (.int 2)])) (.no (.call "is_wish" [.sub (.var 0) (.int 3)]))))
  [.ret (.bl false)]
  [],
  .ret (.and (.cmp .ne (.sub (.sub (.var 0) (.int 3)) (.int 0)) (.str "same")) (.cmp .nin (.sub (.var 0) (.int 1)) (.call "cells_of" [.sub (.var 0) (.int 3)])))]
/-- is_wish: 2 slots, 1 parameters; 9 laws: k02 k04 k07 k08 k09 k69 k70 k71 k82 -/
def P_is_wish : List CS := [
  .ife (.orr (.no (.bf (.isa "tuple") (.var 0))) (.orr (.cmp .lt (.bf .len (.var 0)) (.int 2)) (.no (.bf (.isa "str") (.sub (.var 0) (.int 0))))))
  [.ret (.bl false)]
  [],
  .asg 1 (.sub (.var 0) (.int 0)),
  .ife (.cmp .eq (.var 1) (.str "unlike"))
  [.ret (.and (.cmp .eq (.bf .len (.var 0)) (.int 2)) (.call "are_names" [.sub (.var 0) (.int 1)]))]
  [],
  .ife (.cmp .eq (.var 1) (.str "behind"))
  [.ret (.and (.cmp .eq (.bf .len (.var 0)) (.int 3)) (.and (.call "are_names" [.sub (.var 0) (.int 1)]) (.call "is_between" [.sub (.var 0) (.int 2), .bop .sub (.int 0) (.glo "GAPS"), .glo "GAPS"])))]
  [],
  .ife (.cmp .eq (.var 1) (.str "table"))
  [.ret (.and (.cmp .eq (.bf .len (.var 0)) (.int 3)) (.call "is_table" [.var 0]))]
  [],
  .ife (.cmp .eq (.var 1) (.str "many"))
  [.ret (.and (.cmp .eq (.bf .len (.var 0)) (.int 5)) (.call "is_many" [.var 0]))]
  [],
  .ife (.cmp .ne (.bf .len (.var 0)) (.int 4))
  [.ret (.bl false)]
  [],
  .ife (.cmp .eq (.var 1) (.str "sum"))
  [.ret (.call "is_sum" [.var 0])]
  [],
  .ife (.cmp .eq (.var 1) (.str "way"))
  [.ret (.call "is_way" [.var 0])]
  [],
  .ret (.and (.cmp .eq (.var 1) (.str "same")) (.call "is_same" [.var 0]))]
/-- cells_of: 2 slots, 1 parameters; 45 laws: k02 k03 k04 k05 k07 k08 k09 k32 k33 k34 k35 k36 -/
def P_cells_of : List CS := [
  .ife (.cmp .eq (.sub (.var 0) (.int 0)) (.str "many"))
  [.ret (.sub (.var 0) (.int 2))]
  [],
  .ife (.cmp .eq (.sub (.var 0) (.int 0)) (.str "sum"))
  [.ret (.bf .tuple (.lc (.sub (.var 1) (.int 1)) (.one 1) (.seq (.sub (.var 0) (.int 1))) []))]
  [],
  .ife (.cmp .eq (.sub (.var 0) (.int 0)) (.str "same"))
  [.ret (.bop .add (.tup [.sub (.var 0) (.int 1)]) (.call "cells_of" [.sub (.var 0) (.int 3)]))]
  [],
  .ret (.sub (.var 0) (.int 1))]
/-- _law_names: 8 slots, 2 parameters; 73 laws: k02 k03 k04 k05 k06 k07 k08 k09 k10 k11 k12 k13 -/
def L_names : List CS := [
  .asg 2 (.str "abcdefghijklmnopqrstuvwxyz"),
  .asgO 3 (.lst []),
  .for_ (.one 4) (.rng (.var 1))
  [.asg 5 (.mt .join (.str "") [.lc (.sub (.var 2) (.call "_law_draw" [.var 0, .int 26])) (.one 6) (.rng (.bop .add (.int 1) (.call "_law_draw" [.var 0, .int 8]))) []]), .ife (.and (.cmp .gt (.var 4) (.int 0)) (.cmp .eq (.call "_law_draw" [.var 0, .int 2]) (.int 0)))
  [.asg 7 (.call "_law_draw" [.var 0, .bf .len (.sub (.rd 3) (.neg (.int 1)))]), .asg 5 (.bop .add (.bop .add (.slc (.sub (.rd 3) (.neg (.int 1))) none (some (.var 7))) (.sub (.var 5) (.int 0))) (.slc (.sub (.rd 3) (.neg (.int 1))) (some (.bop .add (.var 7) (.int 1))) none))]
  [], .whl (.orr (.cmp .inn (.var 5) (.rd 3)) (.cmp .inn (.var 5) (.lst [.str "in", .str "from", .str "to", .str "end"])))
  [.asg 5 (.bop .add (.sub (.var 2) (.bop .mod (.bop .add (.mt .index (.var 2) [.sub (.var 5) (.int 0)]) (.int 1)) (.int 26))) (.slc (.var 5) (some (.int 1)) none))], .xpr (.mt .append (.rd 3) [.var 5])],
  .ret (.mv 3)]
/-- _law_numbers: 5 slots, 2 parameters; 6 laws: k02 k03 k04 k06 k07 k09 -/
def L_numbers : List CS := [
  .asg 2 (.call "_law_number" [.var 0, .int 999000]),
  .asgO 3 (.lst []),
  .for_ (.one 4) (.rng (.var 1))
  [.xpr (.mt .insert (.rd 3) [.call "_law_draw" [.var 0, .bop .add (.bf .len (.rd 3)) (.int 1)], .var 2]), .asg 2 (.bop .add (.bop .add (.var 2) (.int 1)) (.sub (.lst [.int 0, .int 0, .call "_law_draw" [.var 0, .int 16]]) (.call "_law_draw" [.var 0, .int 3])))],
  .ret (.bf .tuple (.rd 3))]
/-- _law_many: 2 slots, 2 parameters; 5 laws: k02 k03 k04 k06 k09 -/
def L_many : List CS := [
  .ret (.sub (.lst [.call "_law_draw" [.var 0, .bop .add (.bf2 .min2 (.var 1) (.int 4)) (.int 1)], .call "_law_draw" [.var 0, .bop .add (.var 1) (.int 1)], .var 1]) (.bop .fdiv (.call "_law_draw" [.var 0, .int 8]) (.int 3)))]
/-- _law_big_sum: 6 slots, 2 parameters; 5 laws: k02 k03 k04 k06 k09 -/
def L_big_sum : List CS := [
  .asgO 2 (.lst []),
  .for_ (.one 3) (.seq (.slc (.var 1) none (some (.int 6))))
  [.asg 4 (.call "_law_number" [.var 0, .bop .pow (.int 10) (.int 6)]), .xpr (.mt .append (.rd 2) [.tup [.bop .add (.var 4) (.bf .int (.cmp .eq (.var 4) (.int 0))), .var 3]])],
  .asg 5 (.lst [.call "_law_number" [.var 0, .bop .pow (.int 10) (.int 13)], .non, .call "_law_number" [.var 0, .bop .pow (.int 10) (.int 13)]]),
  .ret (.tup [.str "sum", .bf .tuple (.rd 2), .sub (.var 5) (.call "_law_draw" [.var 0, .int 2]), .sub (.var 5) (.bop .add (.int 1) (.call "_law_draw" [.var 0, .int 2]))])]
/-- _law_big_rows: 9 slots, 3 parameters; 5 laws: k02 k03 k04 k06 k09 -/
def L_big_rows : List CS := [
  .asg 3 (.call "_law_numbers" [.var 0, .var 2]),
  .asg 4 (.call "_law_draw" [.var 0, .var 1]),
  .asgO 5 (.lst []),
  .for_ (.one 6) (.seq (.var 3))
  [.asgO 7 (.lc (.call "_law_number" [.var 0, .bop .pow (.int 10) (.int 6)]) (.one 8) (.rng (.var 1)) []), .setI (.rd 7) (.var 4) (.var 6), .xpr (.mt .append (.rd 5) [.bf .tuple (.rd 7)])],
  .ret (.bf .tuple (.rd 5))]
/-- _law_big_way: 7 slots, 2 parameters; 5 laws: k02 k03 k04 k06 k09 -/
def L_big_way : List CS := [
  .asg 2 (.bop .add (.int 1) (.call "_law_draw" [.var 0, .int 21])),
  .asg 3 (.call "_law_numbers" [.var 0, .int 60]),
  .asgO 4 (.lst []),
  .for_ (.one 5) (.rng (.call "_law_many" [.var 0, .int 60]))
  [.xpr (.mt .append (.rd 4) [.tup [.bop .mod (.bop .add (.var 5) (.bop .fdiv (.var 5) (.var 2))) (.var 2), .sub (.var 3) (.bop .fdiv (.var 5) (.var 2)), .call "_law_draw" [.var 0, .int 21]]])],
  .asgO 6 (.lst []),
  .for_ (.one 5) (.rng (.call "_law_many" [.var 0, .int 21]))
  [.xpr (.mt .insert (.rd 6) [.call "_law_draw" [.var 0, .bop .add (.bf .len (.rd 6)) (.int 1)], .bop .mod (.bop .mul (.var 5) (.int 8)) (.int 21)])],
  .ret (.tup [.str "way", .var 1, .bf .tuple (.rd 4), .bf .tuple (.rd 6)])]
/-- _law_big_wish: 6 slots, 3 parameters; 5 laws: k02 k03 k04 k06 k09 -/
def L_big_wish : List CS := [
  .asg 3 (.bf .tuple (.slc (.var 1) none (some (.bop .add (.int 1) (.call "_law_draw" [.var 0, .bf2 .min2 (.int 12) (.bf .len (.var 1))]))))),
  .ife (.cmp .eq (.var 2) (.str "unlike"))
  [.ret (.tup [.str "unlike", .var 3])]
  [],
  .ife (.cmp .eq (.var 2) (.str "many"))
  [.asg 4 (.bf .abs (.call "_law_number" [.var 0, .bop .pow (.int 10) (.int 9)])), .ret (.tup [.str "many", .call "_law_numbers" [.var 0, .call "_law_many" [.var 0, .int 60]], .var 3, .var 4, .bf .abs (.call "_law_number" [.var 0, .bop .pow (.int 10) (.int 9)])])]
  [],
  .ife (.cmp .eq (.var 2) (.str "sum"))
  [.ret (.call "_law_big_sum" [.var 0, .var 3])]
  [],
  .ife (.cmp .eq (.var 2) (.str "table"))
  [.ret (.tup [.str "table", .var 3, .call "_law_big_rows" [.var 0, .bf .len (.var 3), .call "_law_many" [.var 0, .int 60]]])]
  [],
  .ife (.cmp .eq (.var 2) (.str "way"))
  [.ret (.call "_law_big_way" [.var 0, .var 3])]
  [],
  .ife (.cmp .eq (.var 2) (.str "behind"))
  [.ret (.tup [.str "behind", .var 3, .call "_law_number" [.var 0, .bop .pow (.int 10) (.int 9)]])]
  [],
  .asg 5 (.sub (.lst [.str "unlike", .str "many", .str "sum", .str "table", .str "way", .str "behind"]) (.call "_law_draw" [.var 0, .int 6])),
  .ret (.tup [.str "same", .sub (.var 1) (.neg (.int 1)), .call "_law_numbers" [.var 0, .call "_law_many" [.var 0, .int 60]], .call "_law_big_wish" [.var 0, .slc (.var 1) none (some (.neg (.int 1))), .var 5]])]
/-- is_cell: 3 slots, 1 parameters; 8 laws: k04 k07 k08 k09 k69 k70 k71 k82 -/
def P_is_cell : List CS := [
  .ife (.orr (.no (.bf (.isa "tuple") (.var 0))) (.orr (.cmp .ne (.bf .len (.var 0)) (.int 2)) (.no (.call "is_name" [.sub (.var 0) (.int 0)]))))
  [.ret (.bl false)]
  [],
  .ife (.no (.call "are_each" [.sub (.var 0) (.int 1), .glo "is_value", .int 1, .glo "MOST_ROOM"]))
  [.ret (.bl false)]
  [],
  .for_ (.many [1, 2]) (.zip (.sub (.var 0) (.int 1)) (.slc (.sub (.var 0) (.int 1)) (some (.int 1)) none))
  [.ife (.cmp .ge (.var 1) (.var 2))
  [.ret (.bl false)]
  []],
  .ret (.bl true)]
/-- first_rooms: 4 slots, 1 parameters; 43 laws: k04 k05 k27 k28 k30 k36 k37 k38 k39 k40 k41 k42 -/
def P_first_rooms : List CS := [
  .asgO 1 (.dis []),
  .for_ (.many [2, 3]) (.seq (.sub (.var 0) (.int 0)))
  [.setI (.rd 1) (.var 2) (.var 3)],
  .ret (.mv 1)]
/-- is_led: 6 slots, 2 parameters; 2 laws: k05 k84 -/
def P_is_led : List CS := [
  .asgO 2 (.dis []),
  .for_ (.many [3, 4, 5]) (.seq (.sub (.var 0) (.int 2)))
  [.setI (.rd 2) (.tup [.var 3, .var 4]) (.var 5)],
  .asg 3 (.int 0),
  .for_ (.one 4) (.seq (.var 1))
  [.ife (.cmp .nin (.tup [.var 3, .var 4]) (.rd 2))
  [.ret (.bl false)]
  [], .asg 3 (.sub (.rd 2) (.tup [.var 3, .var 4]))],
  .ret (.cmp .inn (.var 3) (.sub (.var 0) (.int 3)))]
/-- is_within: 5 slots, 2 parameters; 16 laws: k58 k59 k60 k61 k64 k65 k66 k69 k70 k71 k80 k81 -/
def P_is_within : List CS := [
  .for_ (.many [2, 3]) (.items (.sub (.var 1) (.int 0)))
  [.ife (.cmp .ne (.mt .get2 (.sub (.var 0) (.int 0)) [.var 2, .tup []]) (.var 3))
  [.ret (.bl false)]
  []],
  .ret (.bf .all (.lc (.cmp .inn (.var 4) (.sub (.var 0) (.int 1))) (.one 4) (.seq (.sub (.var 1) (.int 1))) []))]
/-- is_within: 3 slots, 3 parameters; 2 laws: k05 k84 -/
def P_is_within_k05 : List CS := [
  .ret (.and (.orr (.cmp .is (.var 1) (.non)) (.cmp .le (.var 1) (.var 0))) (.orr (.cmp .is (.var 2) (.non)) (.cmp .le (.var 0) (.var 2))))]
/-- all_kept: 5 slots, 2 parameters; 2 laws: k05 k84 -/
def P_all_kept : List CS := [
  .for_ (.many [2, 3]) (.seq (.sub (.var 0) (.int 0)))
  [.ife (.cmp .nin (.sub (.var 1) (.var 2)) (.var 3))
  [.ret (.bl false)]
  []],
  .for_ (.one 4) (.seq (.sub (.var 0) (.int 1)))
  [.ife (.no (.call "plainly_kept" [.var 4, .var 1]))
  [.ret (.bl false)]
  []],
  .ret (.bl true)]
/-- _law_pool: 4 slots, 1 parameters; 59 laws: k05 k07 k08 k09 k16 k17 k18 k19 k20 k22 k23 k24 -/
def L_pool : List CS := [
  .asg 1 (.bop .sub (.call "_law_draw" [.var 0, .int 7]) (.int 3)),
  .ife (.cmp .eq (.call "_law_draw" [.var 0, .int 3]) (.int 0))
  [.asg 1 (.bop .sub (.call "_law_draw" [.var 0, .int 1999000]) (.int 999500))]
  [],
  .asgO 2 (.lst []),
  .for_ (.one 3) (.rng (.int 5))
  [.xpr (.mt .append (.rd 2) [.var 1]), .asg 1 (.bop .add (.bop .add (.var 1) (.int 1)) (.sub (.lst [.int 0, .call "_law_draw" [.var 0, .int 4], .int 97]) (.call "_law_draw" [.var 0, .int 3])))],
  .ret (.mv 2)]
/-- _law_pool: 5 slots, 2 parameters; 4 laws: k11 k12 k13 k14 -/
def L_pool_k11 : List CS := [
  .asg 2 (.bop .sub (.call "_law_draw" [.var 0, .int 9]) (.int 4)),
  .ife (.cmp .eq (.call "_law_draw" [.var 0, .int 3]) (.int 0))
  [.asg 2 (.bop .sub (.call "_law_draw" [.var 0, .int 1980000]) (.int 1000000))]
  [],
  .asgO 3 (.lst []),
  .for_ (.one 4) (.rng (.var 1))
  [.xpr (.mt .append (.rd 3) [.var 2]), .asg 2 (.bop .add (.bop .add (.var 2) (.int 1)) (.sub (.lst [.int 0, .call "_law_draw" [.var 0, .int 4], .call "_law_draw" [.var 0, .int 700]]) (.call "_law_draw" [.var 0, .int 3])))],
  .ret (.mv 3)]
/-- _law_rooms: 8 slots, 4 parameters; 59 laws: k05 k07 k08 k09 k16 k17 k18 k19 k20 k22 k23 k24 -/
def L_rooms : List CS := [
  .asgO 4 (.dis []),
  .for_ (.one 5) (.seq (.var 1))
  [.asg 6 (.lc (.var 7) (.one 7) (.seq (.var 2)) [.cmp .eq (.call "_law_draw" [.var 0, .int 2]) (.int 1)]), .setI (.rd 4) (.var 5) (.bf .tuple (.slc (.var 6) none (some (.var 3)))), .ife (.cmp .eq (.var 6) (.lst []))
  [.setI (.rd 4) (.var 5) (.tup [.sub (.var 2) (.call "_law_draw" [.var 0, .int 5])])]
  []],
  .ret (.mv 4)]
/-- _law_rooms: 9 slots, 4 parameters; 3 laws: k11 k12 k13 -/
def L_rooms_k11 : List CS := [
  .asgO 4 (.dis []),
  .for_ (.one 5) (.seq (.var 1))
  [.asgO 6 (.bf .list (.var 2)), .asg 7 (.lc (.mt .popAt (.rd 6) [.call "_law_draw" [.var 0, .bf .len (.rd 6)]]) (.one 8) (.rng (.bop .add (.int 1) (.call "_law_draw" [.var 0, .bf2 .min2 (.var 3) (.bf .len (.rd 6))]))) []), .setI (.rd 4) (.var 5) (.bf .tuple (.bf .sorted (.var 7)))],
  .ret (.mv 4)]
/-- _law_some: 6 slots, 3 parameters; 58 laws: k05 k07 k08 k09 k16 k17 k18 k19 k20 k21 k23 k27 -/
def L_some : List CS := [
  .asgO 3 (.bf .list (.var 1)),
  .asgO 4 (.lst []),
  .for_ (.one 5) (.rng (.bop .add (.var 2) (.call "_law_draw" [.var 0, .bop .add (.bop .sub (.bf .len (.rd 3)) (.var 2)) (.int 1)])))
  [.xpr (.mt .append (.rd 4) [.mt .popAt (.rd 3) [.call "_law_draw" [.var 0, .bf .len (.rd 3)]]])],
  .ret (.bf .tuple (.rd 4))]
/-- _law_bounds: 5 slots, 3 parameters; 51 laws: k05 k07 k08 k09 k19 k20 k23 k27 k28 k30 k32 k33 -/
def L_bounds : List CS := [
  .asg 3 (.bop .add (.var 1) (.call "_law_draw" [.var 0, .bop .add (.bop .sub (.var 2) (.var 1)) (.int 1)])),
  .asg 4 (.bop .add (.var 3) (.call "_law_draw" [.var 0, .bop .add (.bop .sub (.var 2) (.var 3)) (.int 1)])),
  .ret (.sub (.lst [.tup [.var 3, .var 4], .tup [.var 3, .var 3], .tup [.var 3, .non], .tup [.non, .var 4]]) (.call "_law_draw" [.var 0, .int 4]))]
/-- _law_sum: 9 slots, 3 parameters; 51 laws: k05 k07 k08 k09 k19 k20 k23 k27 k28 k30 k32 k33 -/
def L_sum : List CS := [
  .asgO 3 (.lst []),
  .asg 4 (.int 0),
  .asg 5 (.int 0),
  .for_ (.one 6) (.seq (.slc (.var 1) none (some (.int 4))))
  [.asg 7 (.sub (.lst [.int 1, .int 1, .neg (.int 1), .int 2, .neg (.int 3), .int 1000000]) (.call "_law_draw" [.var 0, .int 6])), .xpr (.mt .append (.rd 3) [.tup [.var 7, .var 6]]), .asg 4 (.bop .add (.var 4) (.bf .min (.lc (.bop .mul (.var 7) (.var 8)) (.one 8) (.seq (.sub (.var 2) (.var 6))) []))), .asg 5 (.bop .add (.var 5) (.bf .max (.lc (.bop .mul (.var 7) (.var 8)) (.one 8) (.seq (.sub (.var 2) (.var 6))) [])))],
  .asgT [4, 5] (.call "_law_bounds" [.var 0, .var 4, .var 5]),
  .ret (.tup [.str "sum", .bf .tuple (.rd 3), .var 4, .var 5])]
/-- _law_rows: 7 slots, 3 parameters; 52 laws: k05 k07 k08 k09 k16 k19 k20 k23 k27 k28 k30 k32 -/
def L_rows : List CS := [
  .asgO 3 (.lst []),
  .for_ (.one 4) (.rng (.call "_law_draw" [.var 0, .int 7]))
  [.asg 5 (.bf .tuple (.lc (.sub (.var 2) (.call "_law_draw" [.var 0, .int 5])) (.one 6) (.seq (.var 1)) [])), .ife (.cmp .nin (.var 5) (.rd 3))
  [.xpr (.mt .append (.rd 3) [.var 5])]
  []],
  .ret (.bf .tuple (.rd 3))]
/-- _law_way: 8 slots, 3 parameters; 52 laws: k05 k07 k08 k09 k17 k19 k20 k23 k27 k28 k30 k32 -/
def L_way : List CS := [
  .asg 3 (.bop .add (.int 1) (.call "_law_draw" [.var 0, .int 3])),
  .asgO 4 (.lst []),
  .for_ (.one 5) (.rng (.var 3))
  [.for_ (.one 6) (.seq (.var 2))
  [.ife (.cmp .gt (.call "_law_draw" [.var 0, .int 4]) (.int 0))
  [.xpr (.mt .append (.rd 4) [.tup [.var 5, .var 6, .call "_law_draw" [.var 0, .var 3]]])]
  []]],
  .asg 7 (.lc (.var 5) (.one 5) (.rng (.var 3)) [.cmp .eq (.call "_law_draw" [.var 0, .int 2]) (.int 1)]),
  .ret (.tup [.str "way", .var 1, .bf .tuple (.rd 4), .bf .tuple (.var 7)])]
/-- _law_wish: 11 slots, 5 parameters; 51 laws: k05 k07 k08 k09 k19 k20 k23 k27 k28 k30 k32 k33 -/
def L_wish : List CS := [
  .asg 5 (.sub (.var 4) (.call "_law_draw" [.var 0, .bf .len (.var 4)])),
  .asg 6 (.call "_law_some" [.var 0, .var 1, .bf2 .min2 (.bf .len (.var 1)) (.bop .add (.int 1) (.bf .int (.cmp .eq (.var 5) (.str "unlike"))))]),
  .ife (.cmp .eq (.var 5) (.str "unlike"))
  [.ret (.tup [.str "unlike", .var 6])]
  [],
  .ife (.cmp .eq (.var 5) (.str "many"))
  [.asg 7 (.call "_law_draw" [.var 0, .bop .add (.bf .len (.var 6)) (.int 1)]), .ret (.tup [.str "many", .call "_law_some" [.var 0, .var 3, .int 0], .var 6, .var 7, .bop .add (.var 7) (.call "_law_draw" [.var 0, .bop .add (.bop .sub (.bf .len (.var 6)) (.var 7)) (.int 1)])])]
  [],
  .ife (.cmp .eq (.var 5) (.str "sum"))
  [.ret (.call "_law_sum" [.var 0, .var 6, .var 2])]
  [],
  .ife (.cmp .eq (.var 5) (.str "table"))
  [.ret (.tup [.str "table", .var 6, .call "_law_rows" [.var 0, .var 6, .var 3]])]
  [],
  .ife (.cmp .eq (.var 5) (.str "way"))
  [.ret (.call "_law_way" [.var 0, .var 6, .var 3])]
  [],
  .ife (.cmp .eq (.var 5) (.str "behind"))
  [.ret (.tup [.str "behind", .var 6, .sub (.lst [.int 0, .int 1, .neg (.int 1), .int 2, .int 97]) (.call "_law_draw" [.var 0, .int 5])])]
  [],
  .asg 8 (.lc (.var 9) (.one 9) (.seq (.var 1)) [.cmp .ne (.var 9) (.sub (.var 6) (.int 0))]),
  .ife (.cmp .eq (.var 8) (.lst []))
  [.ret (.tup [.str "unlike", .var 6])]
  [],
  .asg 10 (.call "_law_wish" [.var 0, .var 8, .var 2, .var 3, .lst [.str "unlike", .str "many", .str "sum", .str "table", .str "way", .str "behind"]]),
  .ret (.tup [.str "same", .sub (.var 6) (.int 0), .call "_law_some" [.var 0, .var 3, .int 0], .var 10])]
/-- _law_hall: 11 slots, 4 parameters; 33 laws: k05 k07 k08 k09 k20 k27 k28 k30 k36 k38 k39 k40 -/
def L_hall : List CS := [
  .asg 4 (.call "_law_names" [.var 0, .bop .add (.int 1) (.call "_law_draw" [.var 0, .var 1])]),
  .asg 5 (.call "_law_pool" [.var 0]),
  .asg 6 (.call "_law_rooms" [.var 0, .var 4, .var 5, .var 2]),
  .asg 7 (.lst [.str "unlike", .str "many", .str "sum", .str "table", .str "way", .str "behind", .str "same"]),
  .asg 8 (.lc (.call "_law_wish" [.var 0, .var 4, .var 6, .var 5, .var 7]) (.one 9) (.rng (.call "_law_draw" [.var 0, .bop .add (.var 3) (.int 1)])) []),
  .ret (.tup [.bf .tuple (.lc (.tup [.var 10, .sub (.var 6) (.var 10)]) (.one 10) (.seq (.var 4)) []), .bf .tuple (.var 8)])]
/-- _law_kept: 11 slots, 2 parameters; 41 laws: k05 k16 k17 k18 k19 k20 k21 k23 k27 k28 k30 k32 -/
def L_kept : List CS := [
  .ife (.cmp .eq (.sub (.var 0) (.int 0)) (.str "same"))
  [.ret (.cmp .eq (.cmp .inn (.sub (.var 1) (.sub (.var 0) (.int 1))) (.sub (.var 0) (.int 2))) (.call "_law_kept" [.sub (.var 0) (.int 3), .var 1]))]
  [],
  .ife (.cmp .eq (.sub (.var 0) (.int 0)) (.str "sum"))
  [.asg 2 (.bf .sum (.lc (.bop .mul (.var 3) (.sub (.var 1) (.var 4))) (.many [3, 4]) (.seq (.sub (.var 0) (.int 1))) [])), .ret (.and (.orr (.cmp .is (.sub (.var 0) (.int 2)) (.non)) (.cmp .ge (.var 2) (.sub (.var 0) (.int 2)))) (.orr (.cmp .is (.sub (.var 0) (.int 3)) (.non)) (.cmp .le (.var 2) (.sub (.var 0) (.int 3)))))]
  [],
  .ife (.cmp .eq (.sub (.var 0) (.int 0)) (.str "many"))
  [.ret (.chn .le .le (.sub (.var 0) (.int 3)) (.bf .len (.lc (.var 4) (.one 4) (.seq (.sub (.var 0) (.int 2))) [.cmp .inn (.sub (.var 1) (.var 4)) (.sub (.var 0) (.int 1))])) (.sub (.var 0) (.int 4)))]
  [],
  .asg 5 (.lc (.sub (.var 1) (.var 4)) (.one 4) (.seq (.sub (.var 0) (.int 1))) []),
  .ife (.cmp .eq (.sub (.var 0) (.int 0)) (.str "unlike"))
  [.ret (.cmp .eq (.bf .lenset (.var 5)) (.bf .len (.var 5)))]
  [],
  .ife (.cmp .eq (.sub (.var 0) (.int 0)) (.str "table"))
  [.ret (.cmp .inn (.bf .tuple (.var 5)) (.sub (.var 0) (.int 2)))]
  [],
  .ife (.cmp .eq (.sub (.var 0) (.int 0)) (.str "behind"))
  [.ret (.bf .all (.lc (.cmp .le (.bop .add (.sub (.var 5) (.var 6)) (.sub (.var 0) (.int 2))) (.sub (.var 5) (.bop .add (.var 6) (.int 1)))) (.one 6) (.rng (.bop .sub (.bf .len (.var 5)) (.int 1))) []))]
  [],
  .asg 7 (.int 0),
  .for_ (.one 8) (.seq (.var 5))
  [.asg 9 (.lc (.sub (.var 10) (.int 2)) (.one 10) (.seq (.sub (.var 0) (.int 2))) [.cmp .eq (.slc (.var 10) none (some (.int 2))) (.tup [.var 7, .var 8])]), .ife (.cmp .eq (.var 9) (.lst []))
  [.ret (.bl false)]
  [], .asg 7 (.sub (.var 9) (.int 0))],
  .ret (.cmp .inn (.var 7) (.sub (.var 0) (.int 3)))]
/-- pieces_shown: 4 slots, 1 parameters; 4 laws: k06 k07 k09 k82 -/
def P_pieces_shown : List CS := [
  .asgO 1 (.lst []),
  .for_ (.many [2, 3]) (.enu (.var 0))
  [.ife (.cmp .gt (.var 2) (.int 0))
  [.xpr (.mt .append (.rd 1) [.str ";"])]
  [], .xpr (.mt .extend (.rd 1) [.call "shown" [.var 3]])],
  .ret (.mv 1)]
/-- show_wish: 1 slots, 1 parameters; 4 laws: k06 k07 k09 k82 -/
def P_show_wish : List CS := [
  .ret (.mt .join (.str " ") [.call "wish_words" [.var 0]])]
/-- numbers_of: 3 slots, 2 parameters; 8 laws: k06 k07 k08 k09 k69 k70 k71 k82 -/
def P_numbers_of : List CS := [
  .ret (.bf .tuple (.lc (.call "number_of" [.var 2, .var 1]) (.one 2) (.seq (.var 0)) []))]
/-- bound_of: 2 slots, 2 parameters; 8 laws: k06 k07 k08 k09 k69 k70 k71 k82 -/
def P_bound_of : List CS := [
  .ife (.cmp .eq (.var 0) (.str "_"))
  [.ret (.non)]
  [],
  .ret (.call "number_of" [.var 0, .var 1])]
/-- names_of: 3 slots, 2 parameters; 8 laws: k06 k07 k08 k09 k69 k70 k71 k82 -/
def P_names_of : List CS := [
  .xpr (.call "need" [.cmp .gt (.bf .len (.var 0)) (.int 0), .var 1]),
  .for_ (.one 2) (.seq (.var 0))
  [.xpr (.call "need" [.call "is_name" [.var 2], .var 1])],
  .ret (.bf .tuple (.var 0))]
/-- parted: 4 slots, 3 parameters; 8 laws: k06 k07 k08 k09 k69 k70 k71 k82 -/
def P_parted : List CS := [
  .xpr (.call "need" [.cmp .inn (.var 1) (.var 0), .var 2]),
  .asg 3 (.mt .index (.var 0) [.var 1]),
  .ret (.tup [.slc (.var 0) none (some (.var 3)), .slc (.var 0) (some (.bop .add (.var 3) (.int 1))) none])]
/-- chopped: 4 slots, 2 parameters; 8 laws: k06 k07 k08 k09 k69 k70 k71 k82 -/
def P_chopped : List CS := [
  .ife (.cmp .eq (.bf .len (.var 0)) (.int 0))
  [.ret (.lst [])]
  [],
  .asgO 2 (.lst [.lst []]),
  .for_ (.one 3) (.seq (.var 0))
  [.ife (.cmp .eq (.var 3) (.var 1))
  [.xpr (.mt .append (.rd 2) [.lst []])]
  [.xpr (.mt .append (.sub (.rd 2) (.neg (.int 1))) [.var 3])]],
  .ret (.mv 2)]
/-- many_of: 6 slots, 2 parameters; 8 laws: k06 k07 k08 k09 k69 k70 k71 k82 -/
def P_many_of : List CS := [
  .asgT [2, 3] (.call "parted" [.var 0, .str "in", .var 1]),
  .asgT [4, 3] (.call "parted" [.var 3, .str "from", .var 1]),
  .xpr (.call "need" [.and (.cmp .eq (.bf .len (.var 3)) (.int 3)) (.cmp .eq (.sub (.var 3) (.int 1)) (.str "to")), .var 1]),
  .asg 5 (.call "number_of" [.sub (.var 3) (.int 0), .var 1]),
  .ret (.tup [.str "many", .call "numbers_of" [.var 2, .var 1], .call "names_of" [.var 4, .var 1], .var 5, .call "number_of" [.sub (.var 3) (.int 2), .var 1]])]
/-- table_of: 6 slots, 2 parameters; 8 laws: k06 k07 k08 k09 k69 k70 k71 k82 -/
def P_table_of : List CS := [
  .asgT [2, 3] (.call "parted" [.var 0, .str ":", .var 1]),
  .asgO 4 (.lst []),
  .for_ (.one 5) (.seq (.call "chopped" [.var 3, .str ";"]))
  [.xpr (.call "need" [.cmp .gt (.bf .len (.var 5)) (.int 0), .var 1]), .xpr (.mt .append (.rd 4) [.call "numbers_of" [.var 5, .var 1]])],
  .ret (.tup [.str "table", .call "names_of" [.var 2, .var 1], .bf .tuple (.rd 4)])]
/-- way_of: 7 slots, 2 parameters; 8 laws: k06 k07 k08 k09 k69 k70 k71 k82 -/
def P_way_of : List CS := [
  .asgT [2, 3] (.call "parted" [.var 0, .str ":", .var 1]),
  .asgT [3, 4] (.call "parted" [.var 3, .str "end", .var 1]),
  .asgO 5 (.lst []),
  .for_ (.one 6) (.seq (.call "chopped" [.var 3, .str ";"]))
  [.xpr (.call "need" [.cmp .eq (.bf .len (.var 6)) (.int 3), .var 1]), .xpr (.mt .append (.rd 5) [.call "numbers_of" [.var 6, .var 1]])],
  .ret (.tup [.str "way", .call "names_of" [.var 2, .var 1], .bf .tuple (.rd 5), .call "numbers_of" [.var 4, .var 1]])]
/-- same_of: 5 slots, 2 parameters; 8 laws: k06 k07 k08 k09 k69 k70 k71 k82 -/
def P_same_of : List CS := [
  .asgT [2, 3] (.call "parted" [.var 0, .str ":", .var 1]),
  .asg 4 (.call "names_of" [.slc (.var 2) none (some (.int 1)), .var 1]),
  .ret (.tup [.str "same", .sub (.var 4) (.int 0), .call "numbers_of" [.slc (.var 2) (some (.int 1)) none, .var 1], .call "wish_of_words" [.var 3, .var 1]])]
/-- wish_of_words: 4 slots, 2 parameters; 8 laws: k06 k07 k08 k09 k69 k70 k71 k82 -/
def P_wish_of_words : List CS := [
  .xpr (.call "need" [.cmp .gt (.bf .len (.var 0)) (.int 1), .var 1]),
  .asg 2 (.sub (.var 0) (.int 0)),
  .asg 3 (.slc (.var 0) (some (.int 1)) none),
  .ife (.cmp .eq (.var 2) (.str "unlike"))
  [.ret (.tup [.str "unlike", .call "names_of" [.var 3, .var 1]])]
  [],
  .ife (.cmp .eq (.var 2) (.str "behind"))
  [.ret (.tup [.str "behind", .call "names_of" [.slc (.var 3) (some (.int 1)) none, .var 1], .call "number_of" [.sub (.var 3) (.int 0), .var 1]])]
  [],
  .ife (.cmp .eq (.var 2) (.str "many"))
  [.ret (.call "many_of" [.var 3, .var 1])]
  [],
  .ife (.cmp .eq (.var 2) (.str "sum"))
  [.ret (.call "sum_of" [.var 3, .var 1])]
  [],
  .ife (.cmp .eq (.var 2) (.str "table"))
  [.ret (.call "table_of" [.var 3, .var 1])]
  [],
  .ife (.cmp .eq (.var 2) (.str "way"))
  [.ret (.call "way_of" [.var 3, .var 1])]
  [],
  .xpr (.call "need" [.cmp .eq (.var 2) (.str "same"), .var 1]),
  .ret (.call "same_of" [.var 3, .var 1])]
/-- cell_of: 3 slots, 2 parameters; 7 laws: k07 k08 k09 k69 k70 k71 k82 -/
def P_cell_of : List CS := [
  .xpr (.call "need" [.cmp .gt (.bf .len (.var 0)) (.int 1), .var 1]),
  .asg 2 (.call "names_of" [.slc (.var 0) none (some (.int 1)), .var 1]),
  .ret (.tup [.sub (.var 2) (.int 0), .call "numbers_of" [.slc (.var 0) (some (.int 1)) none, .var 1]])]
/-- show_hall: 5 slots, 1 parameters; 3 laws: k07 k09 k82 -/
def P_show_hall : List CS := [
  .asgO 1 (.lst []),
  .for_ (.many [2, 3]) (.seq (.sub (.var 0) (.int 0)))
  [.xpr (.mt .append (.rd 1) [.mt .join (.str " ") [.bop .add (.lst [.str "cell", .var 2]) (.call "shown" [.var 3])]])],
  .for_ (.one 4) (.seq (.sub (.var 0) (.int 1)))
  [.xpr (.mt .append (.rd 1) [.call "show_wish" [.var 4]])],
  .ret (.mt .join (.str "\n") [.mv 1])]
/-- _wall: 1 slots, 1 parameters; 6 laws: k10 k11 k12 k13 k14 k15 -/
def P__wall : List CS := [
  .whl (.bl true)
  [.pas]]
/-- within: 3 slots, 3 parameters; 47 laws: k10 k13 k15 k19 k20 k21 k23 k27 k28 k30 k32 k33 -/
def P_within : List CS := [
  .ife (.and (.cmp .isn (.var 1) (.non)) (.cmp .lt (.var 0) (.var 1)))
  [.ret (.bl false)]
  [],
  .ret (.orr (.cmp .is (.var 2) (.non)) (.cmp .le (.var 0) (.var 2)))]
/-- _law_told: 9 slots, 4 parameters; 3 laws: k11 k12 k13 -/
def L_told : List CS := [
  .asg 4 (.lc (.call "_law_kept" [.var 1, .var 5]) (.one 5) (.seq (.call "_law_fillings" [.var 2, .var 3])) []),
  .asg 6 (.bf .dict (.var 3)),
  .asg 7 (.lst [.meth "may_keep" (.var 0) [.var 6], .meth "may_break" (.var 0) [.var 6]]),
  .for_ (.one 8) (.seq (.var 7))
  [.ife (.no (.bf (.isa "bool") (.var 8)))
  [.ret (.bl false)]
  []],
  .ret (.and (.cmp .eq (.var 7) (.lst [.cmp .inn (.bl true) (.var 4), .cmp .inn (.bl false) (.var 4)])) (.cmp .eq (.var 6) (.var 3)))]
/-- Wish.__init__: 2 slots, 2 parameters; 53 laws: k10 k11 k12 k13 k14 k15 k16 k17 k18 k19 k20 k21 -/
def M_Wish___init__ : List CS := [
  .setA (.var 0) "wish" (.var 1)]
/-- Wish.kept: 2 slots, 2 parameters; 48 laws: k10 k16 k17 k18 k19 k20 k21 k23 k27 k28 k30 k32 -/
def M_Wish_kept : List CS := [
  .ret (.bl true)]
/-- Wish.kept: 2 slots, 2 parameters; 5 laws: k11 k12 k13 k14 k15 -/
def M_Wish_kept_k11 : List CS := [
  .xpr (.call "_wall" [.int 0])]
/-- Wish.may_keep: 2 slots, 2 parameters; 52 laws: k11 k12 k13 k14 k15 k16 k17 k18 k19 k20 k21 k23 -/
def M_Wish_may_keep : List CS := [
  .ret (.bl true)]
/-- Wish.may_break: 2 slots, 2 parameters; 52 laws: k11 k12 k13 k14 k15 k16 k17 k18 k19 k20 k21 k23 -/
def M_Wish_may_break : List CS := [
  .ret (.bl false)]
/-- Unlike.kept: 4 slots, 2 parameters; 45 laws: k10 k19 k20 k21 k23 k27 k28 k30 k32 k33 k34 k35 -/
def M_Unlike_kept : List CS := [
  .asg 2 (.lc (.sub (.var 1) (.var 3)) (.one 3) (.seq (.sub (.attr (.var 0) "wish") (.int 1))) []),
  .ret (.cmp .eq (.bf .lenset (.var 2)) (.bf .len (.var 2)))]
/-- Unlike.kept: 2 slots, 2 parameters; 2 laws: k11 k14 -/
def M_Unlike_kept_k11 : List CS := [
  .xpr (.call "_wall" [.int 1])]
/-- Unlike.may_keep: 4 slots, 2 parameters; 46 laws: k11 k14 k19 k20 k21 k23 k27 k28 k30 k32 k33 k34 -/
def M_Unlike_may_keep : List CS := [
  .asg 2 (.al (.dis [])),
  .for_ (.one 3) (.seq (.sub (.attr (.var 0) "wish") (.int 1)))
  [.ife (.no (.call "seated" [.var 3, .var 1, .var 2, .al (.dis [])]))
  [.ret (.bl false)]
  []],
  .ret (.bl true)]
/-- Unlike.may_break: 5 slots, 2 parameters; 46 laws: k11 k14 k19 k20 k21 k23 k27 k28 k30 k32 k33 k34 -/
def M_Unlike_may_break : List CS := [
  .asgO 2 (.dis []),
  .for_ (.one 3) (.seq (.sub (.attr (.var 0) "wish") (.int 1)))
  [.for_ (.one 4) (.seq (.sub (.var 1) (.var 3)))
  [.ife (.cmp .inn (.var 4) (.rd 2))
  [.ret (.bl true)]
  [], .setI (.rd 2) (.var 4) (.bl true)]],
  .ret (.bl false)]
/-- Many.kept: 9 slots, 2 parameters; 45 laws: k10 k19 k20 k21 k23 k27 k28 k30 k32 k33 k34 k35 -/
def M_Many_kept : List CS := [
  .asgT [2, 3, 4, 5, 6] (.attr (.var 0) "wish"),
  .asg 7 (.bf .len (.lc (.var 8) (.one 8) (.seq (.var 4)) [.cmp .inn (.sub (.var 1) (.var 8)) (.var 3)])),
  .ret (.and (.cmp .le (.var 5) (.var 7)) (.cmp .le (.var 7) (.var 6)))]
/-- Many.may_keep: 4 slots, 2 parameters; 46 laws: k12 k15 k19 k20 k21 k23 k27 k28 k30 k32 k33 k34 -/
def M_Many_may_keep : List CS := [
  .asgT [2, 3] (.meth "counts" (.var 0) [.var 1]),
  .ret (.cmp .le (.bf2 .max2 (.var 2) (.sub (.attr (.var 0) "wish") (.int 3))) (.bf2 .min2 (.var 3) (.sub (.attr (.var 0) "wish") (.int 4))))]
/-- Many.may_break: 4 slots, 2 parameters; 46 laws: k12 k15 k19 k20 k21 k23 k27 k28 k30 k32 k33 k34 -/
def M_Many_may_break : List CS := [
  .asgT [2, 3] (.meth "counts" (.var 0) [.var 1]),
  .ret (.orr (.cmp .lt (.var 2) (.sub (.attr (.var 0) "wish") (.int 3))) (.cmp .gt (.var 3) (.sub (.attr (.var 0) "wish") (.int 4))))]
/-- Many.counts: 12 slots, 2 parameters; 46 laws: k12 k15 k19 k20 k21 k23 k27 k28 k30 k32 k33 k34 -/
def M_Many_counts : List CS := [
  .asgT [2, 3, 4, 5, 6] (.attr (.var 0) "wish"),
  .asg 7 (.int 0),
  .asg 8 (.int 0),
  .for_ (.one 9) (.seq (.var 4))
  [.asg 10 (.lc (.var 11) (.one 11) (.seq (.sub (.var 1) (.var 9))) [.cmp .inn (.var 11) (.var 3)]), .ife (.cmp .gt (.bf .len (.var 10)) (.int 0))
  [.aug 8 .add (.int 1)]
  [], .ife (.cmp .eq (.bf .len (.var 10)) (.bf .len (.sub (.var 1) (.var 9))))
  [.aug 7 .add (.int 1)]
  []],
  .ret (.tup [.var 7, .var 8])]
/-- Sum.kept: 8 slots, 2 parameters; 45 laws: k10 k19 k20 k21 k23 k27 k28 k30 k32 k33 k34 k35 -/
def M_Sum_kept : List CS := [
  .asgT [2, 3, 4, 5] (.attr (.var 0) "wish"),
  .ret (.call "within" [.bf .sum (.lc (.bop .mul (.var 6) (.sub (.var 1) (.var 7))) (.many [6, 7]) (.seq (.var 3)) []), .var 4, .var 5])]
/-- Sum.kept: 2 slots, 2 parameters; 2 laws: k13 k15 -/
def M_Sum_kept_k13 : List CS := [
  .xpr (.call "_wall" [.int 1])]
/-- Sum.may_keep: 7 slots, 2 parameters; 46 laws: k13 k15 k19 k20 k21 k23 k27 k28 k30 k32 k33 k34 -/
def M_Sum_may_keep : List CS := [
  .asgT [2, 3, 4, 5] (.attr (.var 0) "wish"),
  .ife (.cmp .is (.var 4) (.non))
  [.ret (.orr (.cmp .is (.var 5) (.non)) (.cmp .le (.meth "least" (.var 0) [.var 1]) (.var 5)))]
  [],
  .ife (.cmp .is (.var 5) (.non))
  [.ret (.cmp .ge (.meth "greatest" (.var 0) [.var 1]) (.var 4))]
  [],
  .for_ (.one 6) (.seq (.meth "all_sums" (.var 0) [.var 1]))
  [.ife (.call "within" [.var 6, .var 4, .var 5])
  [.ret (.bl true)]
  []],
  .ret (.bl false)]
/-- Sum.may_break: 6 slots, 2 parameters; 46 laws: k13 k15 k19 k20 k21 k23 k27 k28 k30 k32 k33 k34 -/
def M_Sum_may_break : List CS := [
  .asgT [2, 3, 4, 5] (.attr (.var 0) "wish"),
  .ife (.and (.cmp .isn (.var 4) (.non)) (.cmp .lt (.meth "least" (.var 0) [.var 1]) (.var 4)))
  [.ret (.bl true)]
  [],
  .ret (.and (.cmp .isn (.var 5) (.non)) (.cmp .gt (.meth "greatest" (.var 0) [.var 1]) (.var 5)))]
/-- Sum.least: 5 slots, 2 parameters; 46 laws: k13 k15 k19 k20 k21 k23 k27 k28 k30 k32 k33 k34 -/
def M_Sum_least : List CS := [
  .ret (.bf .sum (.lc (.bf .min (.lc (.bop .mul (.var 3) (.var 2)) (.one 2) (.seq (.sub (.var 1) (.var 4))) [])) (.many [3, 4]) (.seq (.sub (.attr (.var 0) "wish") (.int 1))) []))]
/-- Sum.greatest: 5 slots, 2 parameters; 46 laws: k13 k15 k19 k20 k21 k23 k27 k28 k30 k32 k33 k34 -/
def M_Sum_greatest : List CS := [
  .ret (.bf .sum (.lc (.bf .max (.lc (.bop .mul (.var 3) (.var 2)) (.one 2) (.seq (.sub (.var 1) (.var 4))) [])) (.many [3, 4]) (.seq (.sub (.attr (.var 0) "wish") (.int 1))) []))]
/-- Sum.all_sums: 8 slots, 2 parameters; 46 laws: k13 k15 k19 k20 k21 k23 k27 k28 k30 k32 k33 k34 -/
def M_Sum_all_sums : List CS := [
  .asg 2 (.dis [.int 0, .bl true]),
  .for_ (.many [3, 4]) (.seq (.sub (.attr (.var 0) "wish") (.int 1)))
  [.asgO 5 (.dis []), .for_ (.one 6) (.keys (.var 2))
  [.for_ (.one 7) (.seq (.sub (.var 1) (.var 4)))
  [.setI (.rd 5) (.bop .add (.var 6) (.bop .mul (.var 3) (.var 7))) (.bl true)]], .frz 5 (.asg 2 (.rd 5))],
  .ret (.bf .list (.var 2))]
/-- seated: 5 slots, 4 parameters; 46 laws: k11 k14 k19 k20 k21 k23 k27 k28 k30 k32 k33 k34 -/
def P_seated : List CS := [
  .for_ (.one 4) (.seq (.sub (.var 1) (.var 0)))
  [.ife (.cmp .nin (.var 4) (.var 3))
  [.setI (.var 3) (.var 4) (.bl true), .ife (.orr (.cmp .nin (.var 4) (.var 2)) (.call "seated" [.sub (.var 2) (.var 4), .var 1, .var 2, .var 3]))
  [.setI (.var 2) (.var 4) (.var 0), .ret (.bl true)]
  []]
  []],
  .ret (.bl false)]
/-- _law_fillings: 8 slots, 2 parameters; 39 laws: k11 k12 k13 k16 k17 k18 k19 k20 k23 k26 k27 k28 -/
def L_fillings : List CS := [
  .asg 2 (.lst [.dis []]),
  .for_ (.one 3) (.seq (.var 0))
  [.asgO 4 (.lst []), .for_ (.one 5) (.seq (.var 2))
  [.for_ (.one 6) (.seq (.sub (.var 1) (.var 3)))
  [.asgO 7 (.bf .dict (.var 5)), .setI (.rd 7) (.var 3) (.var 6), .xpr (.mt .append (.rd 4) [.mv 7])]], .frz 4 (.asg 2 (.rd 4))],
  .ret (.var 2)]
/-- _law_room: 4 slots, 2 parameters; 3 laws: k56 k57 k64 -/
def L_room : List CS := [
  .asg 2 (.lc (.var 3) (.one 3) (.seq (.var 1)) [.cmp .eq (.call "_law_draw" [.var 0, .int 2]) (.int 1)]),
  .ife (.cmp .eq (.var 2) (.lst []))
  [.ret (.tup [.sub (.var 1) (.call "_law_draw" [.var 0, .bf .len (.var 1)])])]
  [],
  .ret (.bf .tuple (.var 2))]
/-- _law_even_rooms: 12 slots, 4 parameters; 4 laws: k52 k53 k54 k55 -/
def L_even_rooms : List CS := [
  .asgO 4 (.dis []),
  .for_ (.one 5) (.seq (.var 1))
  [.ife (.cmp .nin (.var 5) (.rd 4))
  [.asg 6 (.call "_law_round" [.sub (.var 3) (.int 0), .var 5]), .asg 7 (.sub (.call "_law_rooms" [.var 0, .lst [.var 5], .var 2, .int 3]) (.var 5)), .asg 8 (.var 7), .for_ (.one 9) (.seq (.var 6))
  [.asg 8 (.bf .tuple (.bf .sorted (.call "_law_moved" [.sub (.var 3) (.int 1), .var 8])))], .ife (.cmp .ne (.var 8) (.var 7))
  [.asg 10 (.lst []), .for_ (.one 11) (.seq (.slc (.var 7) none (some (.int 1))))
  [.asg 10 (.bop .add (.var 10) (.call "_law_round" [.sub (.var 3) (.int 1), .var 11]))], .asg 7 (.bf .tuple (.bf .sorted (.var 10)))]
  [], .for_ (.one 9) (.seq (.var 6))
  [.setI (.rd 4) (.var 9) (.var 7), .asg 7 (.bf .tuple (.bf .sorted (.call "_law_moved" [.sub (.var 3) (.int 1), .var 7])))]]
  []],
  .ret (.mv 4)]
/-- _law_terms: 6 slots, 2 parameters; 2 laws: k42 k69 -/
def L_terms : List CS := [
  .asg 2 (.slc (.call "_law_some" [.var 0, .var 1, .int 1]) none (some (.int 6))),
  .asgO 3 (.lst []),
  .for_ (.one 4) (.seq (.var 2))
  [.asg 5 (.sub (.lst [.int 1, .neg (.int 1), .int 2, .neg (.int 7), .bop .add (.int 1) (.call "_law_draw" [.var 0, .bop .pow (.int 10) (.int 6)]), .bop .sub (.neg (.int 1)) (.call "_law_draw" [.var 0, .bop .pow (.int 10) (.int 6)])]) (.call "_law_draw" [.var 0, .int 6])), .xpr (.mt .append (.rd 3) [.tup [.var 5, .var 4]])],
  .ret (.bf .tuple (.rd 3))]
/-- _law_truth: 2 slots, 2 parameters; 6 laws: k16 k17 k18 k19 k20 k52 -/
def L_truth : List CS := [
  .ret (.and (.bf (.isa "bool") (.var 0)) (.cmp .eq (.var 0) (.var 1)))]
/-- _law_right: 8 slots, 4 parameters; 4 laws: k16 k17 k18 k19 -/
def L_right : List CS := [
  .asgO 4 (.lst []),
  .for_ (.one 5) (.seq (.call "_law_fillings" [.var 2, .var 3]))
  [.asg 6 (.call "_law_kept" [.var 1, .var 5]), .asg 7 (.bf .dict (.var 5)), .ife (.orr (.no (.call "_law_truth" [.meth "kept" (.var 0) [.var 7], .var 6])) (.cmp .ne (.var 7) (.var 5)))
  [.ret (.bl false)]
  [], .xpr (.mt .append (.rd 4) [.var 6])],
  .asg 7 (.bf .dict (.var 3)),
  .ife (.orr (.no (.call "_law_truth" [.meth "may_keep" (.var 0) [.var 7], .cmp .inn (.bl true) (.rd 4)])) (.no (.call "_law_truth" [.meth "may_break" (.var 0) [.var 7], .cmp .inn (.bl false) (.rd 4)])))
  [.ret (.bl false)]
  [],
  .ret (.cmp .eq (.var 7) (.var 3))]
/-- _law_right: 5 slots, 4 parameters; 3 laws: k27 k28 k30 -/
def L_right_k27 : List CS := [
  .asg 4 (.bf .dict (.sub (.var 0) (.int 0))),
  .ife (.no (.call "_law_known" [.var 4, .sub (.var 2) (.int 1)]))
  [.ret (.bl false)]
  [],
  .ife (.cmp .is (.sub (.var 2) (.int 0)) (.non))
  [.ret (.call "_law_dead" [.var 4, .sub (.var 2) (.int 1), .var 3])]
  [],
  .ret (.call "_law_shows" [.var 0, .var 1, .var 2])]
/-- Table.kept: 3 slots, 2 parameters; 45 laws: k16 k19 k20 k21 k23 k27 k28 k30 k32 k33 k34 k35 -/
def M_Table_kept : List CS := [
  .ret (.cmp .inn (.bf .tuple (.lc (.sub (.var 1) (.var 2)) (.one 2) (.seq (.sub (.attr (.var 0) "wish") (.int 1))) [])) (.sub (.attr (.var 0) "wish") (.int 2)))]
/-- Table.may_keep: 2 slots, 2 parameters; 45 laws: k16 k19 k20 k21 k23 k27 k28 k30 k32 k33 k34 k35 -/
def M_Table_may_keep : List CS := [
  .ret (.cmp .gt (.bf .len (.meth "rows_in" (.var 0) [.var 1])) (.int 0))]
/-- Table.may_break: 4 slots, 2 parameters; 45 laws: k16 k19 k20 k21 k23 k27 k28 k30 k32 k33 k34 k35 -/
def M_Table_may_break : List CS := [
  .asg 2 (.int 1),
  .for_ (.one 3) (.seq (.sub (.attr (.var 0) "wish") (.int 1)))
  [.asg 2 (.bop .mul (.var 2) (.bf .len (.sub (.var 1) (.var 3))))],
  .ret (.cmp .gt (.var 2) (.bf .len (.meth "rows_in" (.var 0) [.var 1])))]
/-- Table.rows_in: 6 slots, 2 parameters; 45 laws: k16 k19 k20 k21 k23 k27 k28 k30 k32 k33 k34 k35 -/
def M_Table_rows_in : List CS := [
  .asg 2 (.sub (.attr (.var 0) "wish") (.int 1)),
  .ret (.lc (.var 3) (.one 3) (.seq (.sub (.attr (.var 0) "wish") (.int 2))) [.bf .all (.lc (.cmp .inn (.var 5) (.sub (.var 1) (.var 4))) (.many [4, 5]) (.zip (.var 2) (.var 3)) [])])]
/-- _law_round: 3 slots, 2 parameters; 4 laws: k52 k53 k54 k55 -/
def L_round : List CS := [
  .asgO 2 (.lst [.var 1]),
  .whl (.cmp .ne (.mt .get2 (.var 0) [.sub (.rd 2) (.neg (.int 1)), .sub (.rd 2) (.neg (.int 1))]) (.var 1))
  [.xpr (.mt .append (.rd 2) [.mt .get2 (.var 0) [.sub (.rd 2) (.neg (.int 1)), .sub (.rd 2) (.neg (.int 1))]])],
  .ret (.mv 2)]
/-- Way.kept: 4 slots, 2 parameters; 45 laws: k17 k19 k20 k21 k23 k27 k28 k30 k32 k33 k34 k35 -/
def M_Way_kept : List CS := [
  .asgO 2 (.dis []),
  .for_ (.one 3) (.seq (.sub (.attr (.var 0) "wish") (.int 1)))
  [.setI (.rd 2) (.var 3) (.tup [.sub (.var 1) (.var 3)])],
  .frz 2 (.ret (.meth "may_keep" (.var 0) [.rd 2]))]
/-- Way.may_keep: 3 slots, 2 parameters; 45 laws: k17 k19 k20 k21 k23 k27 k28 k30 k32 k33 k34 k35 -/
def M_Way_may_keep : List CS := [
  .ret (.bf .any (.lc (.cmp .inn (.var 2) (.sub (.attr (.var 0) "wish") (.int 3))) (.one 2) (.seq (.meth "last_states" (.var 0) [.var 1])) []))]
/-- Way.may_break: 3 slots, 2 parameters; 45 laws: k17 k19 k20 k21 k23 k27 k28 k30 k32 k33 k34 k35 -/
def M_Way_may_break : List CS := [
  .ret (.bf .any (.lc (.cmp .nin (.var 2) (.sub (.attr (.var 0) "wish") (.int 3))) (.one 2) (.seq (.meth "last_states" (.var 0) [.var 1])) []))]
/-- Way.next_states: 9 slots, 3 parameters; 45 laws: k17 k19 k20 k21 k23 k27 k28 k30 k32 k33 k34 k35 -/
def M_Way_next_states : List CS := [
  .asgO 3 (.dis []),
  .for_ (.many [4, 5, 6]) (.seq (.sub (.attr (.var 0) "wish") (.int 2)))
  [.ife (.and (.cmp .inn (.var 4) (.var 1)) (.cmp .inn (.var 5) (.var 2)))
  [.setI (.rd 3) (.var 6) (.bl true)]
  []],
  .asgO 7 (.dis []),
  .for_ (.one 8) (.seq (.sub (.attr (.var 0) "wish") (.int 2)))
  [.setI (.rd 7) (.slc (.var 8) none (some (.int 2))) (.bl true)],
  .for_ (.one 4) (.keys (.var 1))
  [.for_ (.one 5) (.seq (.var 2))
  [.ife (.cmp .nin (.tup [.var 4, .var 5]) (.rd 7))
  [.setI (.rd 3) (.non) (.bl true)]
  []]],
  .ret (.mv 3)]
/-- Way.last_states: 4 slots, 2 parameters; 45 laws: k17 k19 k20 k21 k23 k27 k28 k30 k32 k33 k34 k35 -/
def M_Way_last_states : List CS := [
  .asg 2 (.dis [.int 0, .bl true]),
  .for_ (.one 3) (.seq (.sub (.attr (.var 0) "wish") (.int 1)))
  [.asg 2 (.meth "next_states" (.var 0) [.var 2, .sub (.var 1) (.var 3)])],
  .ret (.bf .list (.var 2))]
/-- Behind.kept: 4 slots, 2 parameters; 45 laws: k18 k19 k20 k21 k23 k27 k28 k30 k32 k33 k34 k35 -/
def M_Behind_kept : List CS := [
  .ret (.bf .all (.lc (.cmp .le (.bop .add (.sub (.var 1) (.var 2)) (.sub (.attr (.var 0) "wish") (.int 2))) (.sub (.var 1) (.var 3))) (.many [2, 3]) (.seq (.meth "pairs" (.var 0) [])) []))]
/-- Behind.may_keep: 6 slots, 2 parameters; 45 laws: k18 k19 k20 k21 k23 k27 k28 k30 k32 k33 k34 k35 -/
def M_Behind_may_keep : List CS := [
  .asg 2 (.non),
  .for_ (.one 3) (.seq (.sub (.attr (.var 0) "wish") (.int 1)))
  [.asg 4 (.lc (.var 5) (.one 5) (.seq (.sub (.var 1) (.var 3))) [.orr (.cmp .is (.var 2) (.non)) (.cmp .ge (.var 5) (.bop .add (.var 2) (.sub (.attr (.var 0) "wish") (.int 2))))]), .ife (.cmp .eq (.var 4) (.lst []))
  [.ret (.bl false)]
  [], .asg 2 (.bf .min (.var 4))],
  .ret (.bl true)]
/-- Behind.may_break: 4 slots, 2 parameters; 45 laws: k18 k19 k20 k21 k23 k27 k28 k30 k32 k33 k34 k35 -/
def M_Behind_may_break : List CS := [
  .ret (.bf .any (.lc (.cmp .gt (.bop .add (.bf .max (.sub (.var 1) (.var 2))) (.sub (.attr (.var 0) "wish") (.int 2))) (.bf .min (.sub (.var 1) (.var 3)))) (.many [2, 3]) (.seq (.meth "pairs" (.var 0) [])) []))]
/-- inner_wish: 1 slots, 1 parameters; 44 laws: k19 k20 k21 k23 k27 k28 k30 k32 k33 k34 k35 k36 -/
def P_inner_wish : List CS := [
  .ife (.cmp .eq (.sub (.var 0) (.int 0)) (.str "unlike"))
  [.ret (.new "Unlike" [.var 0])]
  [],
  .ife (.cmp .eq (.sub (.var 0) (.int 0)) (.str "many"))
  [.ret (.new "Many" [.var 0])]
  [],
  .ife (.cmp .eq (.sub (.var 0) (.int 0)) (.str "sum"))
  [.ret (.new "Sum" [.var 0])]
  [],
  .ife (.cmp .eq (.sub (.var 0) (.int 0)) (.str "table"))
  [.ret (.new "Table" [.var 0])]
  [],
  .ife (.cmp .eq (.sub (.var 0) (.int 0)) (.str "way"))
  [.ret (.new "Way" [.var 0])]
  [],
  .ret (.new "Behind" [.var 0])]
/-- Same.kept: 2 slots, 2 parameters; 44 laws: k19 k20 k21 k23 k27 k28 k30 k32 k33 k34 k35 k36 -/
def M_Same_kept : List CS := [
  .ret (.cmp .eq (.cmp .inn (.sub (.var 1) (.sub (.attr (.var 0) "wish") (.int 1))) (.sub (.attr (.var 0) "wish") (.int 2))) (.meth "kept" (.attr (.var 0) "inner") [.var 1]))]
/-- Same.may_keep: 2 slots, 2 parameters; 44 laws: k19 k20 k21 k23 k27 k28 k30 k32 k33 k34 k35 k36 -/
def M_Same_may_keep : List CS := [
  .ife (.and (.meth "may_be_within" (.var 0) [.var 1]) (.meth "may_keep" (.attr (.var 0) "inner") [.var 1]))
  [.ret (.bl true)]
  [],
  .ret (.and (.meth "may_be_without" (.var 0) [.var 1]) (.meth "may_break" (.attr (.var 0) "inner") [.var 1]))]
/-- Same.may_break: 2 slots, 2 parameters; 44 laws: k19 k20 k21 k23 k27 k28 k30 k32 k33 k34 k35 k36 -/
def M_Same_may_break : List CS := [
  .ife (.and (.meth "may_be_within" (.var 0) [.var 1]) (.meth "may_break" (.attr (.var 0) "inner") [.var 1]))
  [.ret (.bl true)]
  [],
  .ret (.and (.meth "may_be_without" (.var 0) [.var 1]) (.meth "may_keep" (.attr (.var 0) "inner") [.var 1]))]
/-- Same.may_be_within: 3 slots, 2 parameters; 44 laws: k19 k20 k21 k23 k27 k28 k30 k32 k33 k34 k35 k36 -/
def M_Same_may_be_within : List CS := [
  .ret (.bf .any (.lc (.cmp .inn (.var 2) (.sub (.attr (.var 0) "wish") (.int 2))) (.one 2) (.seq (.sub (.var 1) (.sub (.attr (.var 0) "wish") (.int 1)))) []))]
/-- Same.may_be_without: 3 slots, 2 parameters; 44 laws: k19 k20 k21 k23 k27 k28 k30 k32 k33 k34 k35 k36 -/
def M_Same_may_be_without : List CS := [
  .ret (.bf .any (.lc (.cmp .nin (.var 2) (.sub (.attr (.var 0) "wish") (.int 2))) (.one 2) (.seq (.sub (.var 1) (.sub (.attr (.var 0) "wish") (.int 1)))) []))]
/-- wish_of: 1 slots, 1 parameters; 43 laws: k20 k21 k23 k27 k28 k30 k32 k33 k34 k35 k36 k37 -/
def P_wish_of : List CS := [
  .ife (.cmp .eq (.sub (.var 0) (.int 0)) (.str "same"))
  [.ret (.new "Same" [.var 0])]
  [],
  .ret (.call "inner_wish" [.var 0])]
/-- is_kept: 2 slots, 2 parameters; 2 laws: k20 k21 -/
def P_is_kept : List CS := [
  .ret (.meth "kept" (.call "wish_of" [.var 0]) [.var 1])]
/-- may_be_kept: 2 slots, 2 parameters; 42 laws: k20 k21 k23 k27 k28 k30 k32 k33 k34 k35 k36 k37 -/
def P_may_be_kept : List CS := [
  .ret (.meth "may_keep" (.call "wish_of" [.var 0]) [.var 1])]
/-- may_be_broken: 2 slots, 2 parameters; 35 laws: k20 k21 k36 k37 k38 k39 k40 k41 k42 k43 k44 k45 -/
def P_may_be_broken : List CS := [
  .ret (.meth "may_break" (.call "wish_of" [.var 0]) [.var 1])]
/-- made_untrue: 4 slots, 3 parameters; 44 laws: k22 k23 k24 k25 k26 k27 k28 k30 k32 k33 k34 k35 -/
def P_made_untrue : List CS := [
  .ife (.cmp .eq (.var 1) (.str "is"))
  [.ret (.bf .tuple (.lc (.var 3) (.one 3) (.seq (.var 0)) [.cmp .ne (.var 3) (.var 2)]))]
  [],
  .ret (.bf .tuple (.lc (.var 3) (.one 3) (.seq (.var 0)) [.cmp .eq (.var 3) (.var 2)]))]
/-- narrowed_by: 6 slots, 2 parameters; 42 laws: k22 k23 k26 k27 k28 k30 k32 k33 k34 k35 k36 k37 -/
def P_narrowed_by : List CS := [
  .asgO 2 (.bf .dict (.var 0)),
  .for_ (.many [3, 4, 5]) (.seq (.var 1))
  [.setI (.rd 2) (.var 3) (.call "made_untrue" [.sub (.rd 2) (.var 3), .var 4, .var 5]), .ife (.cmp .eq (.sub (.rd 2) (.var 3)) (.tup []))
  [.ret (.non)]
  []],
  .ret (.mv 2)]
/-- _law_clause: 7 slots, 4 parameters; 6 laws: k22 k23 k24 k25 k26 k30 -/
def L_clause : List CS := [
  .asgO 4 (.lst []),
  .for_ (.one 5) (.rng (.call "_law_draw" [.var 0, .bop .add (.var 3) (.int 1)]))
  [.asg 6 (.tup [.sub (.var 1) (.call "_law_draw" [.var 0, .bf .len (.var 1)]), .sub (.lst [.str "is", .str "not"]) (.call "_law_draw" [.var 0, .int 2]), .sub (.var 2) (.call "_law_draw" [.var 0, .int 5])]), .ife (.cmp .nin (.var 6) (.rd 4))
  [.xpr (.mt .append (.rd 4) [.var 6])]
  []],
  .ret (.bf .tuple (.bf .sorted (.rd 4)))]
/-- _law_true: 5 slots, 2 parameters; 8 laws: k22 k23 k24 k25 k26 k27 k28 k30 -/
def L_true : List CS := [
  .for_ (.many [2, 3, 4]) (.seq (.var 0))
  [.ife (.cmp .eq (.cmp .eq (.sub (.var 1) (.var 2)) (.var 4)) (.cmp .eq (.var 3) (.str "is")))
  [.ret (.bl true)]
  []],
  .ret (.bl false)]
/-- follows_from: 4 slots, 3 parameters; 40 laws: k23 k27 k28 k30 k32 k33 k34 k35 k36 k37 k38 k39 -/
def P_follows_from : List CS := [
  .asg 3 (.call "narrowed_by" [.var 2, .var 1]),
  .ret (.orr (.cmp .is (.var 3) (.non)) (.no (.call "may_be_kept" [.var 0, .var 3])))]
/-- _law_follows: 3 slots, 2 parameters; 2 laws: k33 k34 -/
def L_follows : List CS := [
  .ret (.bf .all (.lc (.call "_law_holds" [.var 0, .var 2]) (.one 2) (.seq (.var 1)) []))]
/-- is_untrue: 5 slots, 2 parameters; 34 laws: k24 k25 k26 k27 k28 k30 k37 k38 k39 k40 k41 k42 -/
def P_is_untrue : List CS := [
  .asgT [2, 3, 4] (.var 1),
  .ife (.cmp .eq (.var 3) (.str "is"))
  [.ret (.cmp .nin (.var 4) (.sub (.var 0) (.var 2)))]
  [],
  .ret (.cmp .eq (.sub (.var 0) (.var 2)) (.tup [.var 4]))]
/-- open_literals: 3 slots, 2 parameters; 34 laws: k24 k25 k26 k27 k28 k30 k37 k38 k39 k40 k41 k42 -/
def P_open_literals : List CS := [
  .ret (.lc (.var 2) (.one 2) (.seq (.var 1)) [.no (.call "is_untrue" [.var 0, .var 2])])]
/-- made_true: 3 slots, 3 parameters; 34 laws: k24 k25 k26 k27 k28 k30 k37 k38 k39 k40 k41 k42 -/
def P_made_true : List CS := [
  .ife (.cmp .eq (.var 1) (.str "is"))
  [.ret (.call "made_untrue" [.var 0, .str "not", .var 2])]
  [],
  .ret (.call "made_untrue" [.var 0, .str "is", .var 2])]
/-- _law_open: 6 slots, 2 parameters; 4 laws: k24 k27 k28 k30 -/
def L_open : List CS := [
  .asgO 2 (.lst []),
  .for_ (.many [3, 4, 5]) (.seq (.var 1))
  [.ife (.orr (.and (.cmp .eq (.var 4) (.str "is")) (.cmp .inn (.var 5) (.sub (.var 0) (.var 3)))) (.and (.cmp .eq (.var 4) (.str "not")) (.cmp .ne (.sub (.var 0) (.var 3)) (.tup [.var 5]))))
  [.xpr (.mt .append (.rd 2) [.tup [.var 3, .var 4, .var 5]])]
  []],
  .ret (.mv 2)]
/-- _law_units: 9 slots, 2 parameters; 4 laws: k24 k27 k28 k30 -/
def L_units : List CS := [
  .asg 0 (.bf .dict (.var 0)),
  .asg 2 (.dis []),
  .whl (.cmp .ne (.var 2) (.var 0))
  [.asg 2 (.bf .dict (.var 0)), .for_ (.one 3) (.seq (.var 1))
  [.asg 4 (.call "_law_open" [.var 0, .var 3]), .ife (.cmp .eq (.var 4) (.lst []))
  [.ret (.non)]
  [], .ife (.cmp .eq (.bf .len (.var 4)) (.int 1))
  [.asgT [5, 6, 7] (.sub (.var 4) (.int 0)), .setI (.var 0) (.var 5) (.bf .tuple (.lc (.var 8) (.one 8) (.seq (.sub (.var 0) (.var 5))) [.cmp .eq (.cmp .eq (.var 8) (.var 7)) (.cmp .eq (.var 6) (.str "is"))]))]
  []]],
  .ret (.var 0)]
/-- _law_clauses: 10 slots, 4 parameters; 3 laws: k24 k25 k26 -/
def L_clauses : List CS := [
  .asgO 4 (.lc (.call "_law_clause" [.var 0, .var 1, .var 2, .sub (.lst [.int 1, .int 2, .int 3, .int 5]) (.call "_law_draw" [.var 0, .int 4])]) (.one 5) (.rng (.call "_law_draw" [.var 0, .int 9])) []),
  .asg 6 (.sub (.var 1) (.call "_law_draw" [.var 0, .bf .len (.var 1)])),
  .for_ (.one 5) (.rng (.call "_law_draw" [.var 0, .int 9]))
  [.asg 7 (.sub (.var 1) (.call "_law_draw" [.var 0, .bf .len (.var 1)])), .asg 8 (.lst [.tup [.var 6, .str "not", .sub (.sub (.var 3) (.var 6)) (.int 0)], .tup [.var 7, .sub (.lst [.str "is", .str "not"]) (.call "_law_draw" [.var 0, .int 2]), .sub (.var 2) (.call "_law_draw" [.var 0, .int 5])]]), .ife (.cmp .ne (.sub (.var 8) (.int 0)) (.sub (.var 8) (.int 1)))
  [.xpr (.mt .append (.rd 4) [.bf .tuple (.bf .sorted (.var 8))])]
  [], .asg 6 (.var 7)],
  .frz 4 (.ret (.lc (.var 9) (.one 9) (.seq (.rd 4)) [.orr (.cmp .ne (.var 9) (.tup [])) (.cmp .eq (.call "_law_draw" [.var 0, .int 4]) (.int 0))]))]
/-- is_of: 5 slots, 2 parameters; 31 laws: k27 k28 k30 k37 k38 k39 k40 k41 k42 k43 k44 k46 -/
def P_is_of : List CS := [
  .for_ (.many [2, 3, 4]) (.seq (.var 0))
  [.ife (.orr (.cmp .nin (.var 2) (.var 1)) (.cmp .nin (.var 4) (.sub (.var 1) (.var 2))))
  [.ret (.bl false)]
  []],
  .ret (.bl true)]
/-- is_dead: 4 slots, 3 parameters; 31 laws: k27 k28 k30 k37 k38 k39 k40 k41 k42 k43 k44 k46 -/
def P_is_dead : List CS := [
  .asg 3 (.call "narrowed_by" [.var 0, .var 1]),
  .ret (.orr (.cmp .is (.var 3) (.non)) (.cmp .is (.call "by_units" [.var 3, .var 2]) (.non)))]
/-- is_right: 6 slots, 4 parameters; 31 laws: k27 k28 k30 k37 k38 k39 k40 k41 k42 k43 k44 k46 -/
def P_is_right : List CS := [
  .asgT [4, 5] (.var 2),
  .ife (.no (.call "is_of" [.var 5, .var 1]))
  [.ret (.bl false)]
  [],
  .ife (.cmp .is (.var 4) (.non))
  [.ret (.call "is_dead" [.var 1, .var 5, .var 3])]
  [],
  .ret (.and (.chn .le .lt (.int 0) (.var 4) (.bf .len (.sub (.var 0) (.int 1)))) (.call "follows_from" [.sub (.sub (.var 0) (.int 1)) (.var 4), .var 5, .var 1]))]
/-- _law_cells_of: 3 slots, 1 parameters; 9 laws: k27 k28 k30 k32 k33 k34 k35 k41 k85 -/
def L_cells_of : List CS := [
  .ife (.cmp .eq (.sub (.var 0) (.int 0)) (.str "same"))
  [.ret (.bop .add (.lst [.sub (.var 0) (.int 1)]) (.call "_law_cells_of" [.sub (.var 0) (.int 3)]))]
  [],
  .ife (.cmp .eq (.sub (.var 0) (.int 0)) (.str "sum"))
  [.ret (.lc (.var 2) (.many [1, 2]) (.seq (.sub (.var 0) (.int 1))) [])]
  [],
  .ife (.cmp .eq (.sub (.var 0) (.int 0)) (.str "many"))
  [.ret (.bf .list (.sub (.var 0) (.int 2)))]
  [],
  .ret (.bf .list (.sub (.var 0) (.int 1)))]
/-- _law_cells_of: 3 slots, 1 parameters; 7 laws: k56 k57 k58 k59 k60 k61 k64 -/
def L_cells_of_k56 : List CS := [
  .ife (.cmp .eq (.sub (.var 0) (.int 0)) (.str "same"))
  [.ret (.bop .add (.tup [.sub (.var 0) (.int 1)]) (.call "_law_cells_of" [.sub (.var 0) (.int 3)]))]
  [],
  .ife (.cmp .eq (.sub (.var 0) (.int 0)) (.str "sum"))
  [.ret (.bf .tuple (.lc (.var 2) (.many [1, 2]) (.seq (.sub (.var 0) (.int 1))) []))]
  [],
  .ret (.sub (.var 0) (.sub (.lst [.int 1, .int 2]) (.bf .int (.cmp .eq (.sub (.var 0) (.int 0)) (.str "many")))))]
/-- _law_not: 3 slots, 2 parameters; 4 laws: k27 k28 k30 k85 -/
def L_not : List CS := [
  .ret (.bf .tuple (.bf .sorted (.lc (.tup [.var 2, .str "not", .sub (.var 0) (.var 2)]) (.one 2) (.seq (.var 1)) [])))]
/-- _law_broken: 5 slots, 2 parameters; 4 laws: k27 k28 k30 k85 -/
def L_broken : List CS := [
  .for_ (.many [2, 3]) (.enu (.var 0))
  [.ife (.and (.bf .all (.lc (.cmp .inn (.var 4) (.var 1)) (.one 4) (.seq (.call "_law_cells_of" [.var 3])) [])) (.no (.call "_law_kept" [.var 3, .var 1])))
  [.ret (.var 2)]
  []],
  .ret (.non)]
/-- _law_paper: 8 slots, 3 parameters; 4 laws: k27 k28 k30 k85 -/
def L_paper : List CS := [
  .asg 3 (.call "_law_broken" [.sub (.var 0) (.int 1), .var 1]),
  .ife (.cmp .isn (.var 3) (.non))
  [.xpr (.mt .append (.var 2) [.tup [.var 3, .call "_law_not" [.var 1, .call "_law_cells_of" [.sub (.sub (.var 0) (.int 1)) (.var 3)]]]]), .retN]
  [],
  .asgT [4, 5] (.sub (.sub (.var 0) (.int 0)) (.bf .len (.var 1))),
  .for_ (.one 6) (.seq (.var 5))
  [.asgO 7 (.bf .dict (.var 1)), .setI (.rd 7) (.var 4) (.var 6), .frz 7 (.xpr (.call "_law_paper" [.var 0, .rd 7, .var 2]))],
  .xpr (.mt .append (.var 2) [.tup [.non, .call "_law_not" [.var 1, .bf .list (.var 1)]]])]
/-- _law_none_hall: 13 slots, 4 parameters; 4 laws: k27 k28 k30 k85 -/
def L_none_hall : List CS := [
  .asgT [4, 5] (.call "_law_hall" [.var 0, .var 1, .var 2, .var 3]),
  .asg 6 (.lc (.var 7) (.many [7, 8]) (.seq (.var 4)) []),
  .asgO 9 (.lst []),
  .for_ (.one 10) (.seq (.call "_law_fillings" [.var 6, .bf .dict (.var 4)]))
  [.ife (.and (.cmp .isn (.call "_law_broken" [.var 5, .var 10]) (.non)) (.and (.cmp .lt (.bf .len (.rd 9)) (.int 50)) (.cmp .eq (.call "_law_draw" [.var 0, .int 3]) (.int 0))))
  [.xpr (.mt .append (.rd 9) [.bf .tuple (.lc (.sub (.var 10) (.var 7)) (.one 7) (.seq (.var 6)) [])])]
  []],
  .asg 11 (.tup [.str "table", .bf .tuple (.var 6), .bf .tuple (.rd 9)]),
  .asg 12 (.call "_law_draw" [.var 0, .bop .add (.bf .len (.var 5)) (.int 1)]),
  .ret (.tup [.var 4, .bop .add (.bop .add (.slc (.var 5) none (some (.var 12))) (.tup [.var 11])) (.slc (.var 5) (some (.var 12)) none)])]
/-- _law_known: 5 slots, 2 parameters; 3 laws: k27 k28 k30 -/
def L_known : List CS := [
  .ret (.bf .all (.lc (.and (.cmp .inn (.var 2) (.var 0)) (.cmp .inn (.var 4) (.sub (.var 0) (.var 2)))) (.many [2, 3, 4]) (.seq (.var 1)) []))]
/-- _law_shows: 4 slots, 3 parameters; 3 laws: k27 k28 k30 -/
def L_shows : List CS := [
  .ife (.no (.chn .le .lt (.int 0) (.sub (.var 2) (.int 0)) (.bf .len (.sub (.var 0) (.int 1)))))
  [.ret (.bl false)]
  [],
  .for_ (.one 3) (.seq (.var 1))
  [.ife (.and (.call "_law_kept" [.sub (.sub (.var 0) (.int 1)) (.sub (.var 2) (.int 0)), .var 3]) (.no (.call "_law_true" [.sub (.var 2) (.int 1), .var 3])))
  [.ret (.bl false)]
  []],
  .ret (.bl true)]
/-- _law_first_wrong: 8 slots, 2 parameters; 3 laws: k27 k28 k30 -/
def L_first_wrong : List CS := [
  .asg 2 (.call "_law_fillings" [.lc (.var 3) (.many [3, 4]) (.seq (.sub (.var 0) (.int 0))) [], .bf .dict (.sub (.var 0) (.int 0))]),
  .asgO 5 (.lst []),
  .for_ (.many [6, 7]) (.enu (.var 1))
  [.frz 5 (.ife (.no (.call "_law_right" [.var 0, .var 2, .var 7, .rd 5]))
  [.ret (.var 6)]
  []), .xpr (.mt .append (.rd 5) [.sub (.var 7) (.int 1)])],
  .ife (.orr (.cmp .eq (.rd 5) (.lst [])) (.cmp .ne (.sub (.rd 5) (.neg (.int 1))) (.tup [])))
  [.ret (.bf .len (.rd 5))]
  [],
  .ret (.non)]
/-- named_in: 3 slots, 1 parameters; 12 laws: k29 k30 k38 k40 k46 k48 k69 k70 k71 k72 k82 k85 -/
def P_named_in : List CS := [
  .ret (.bf .sortset (.lc (.var 1) (.many [1, 2]) (.seq (.var 0)) [.cmp .isn (.var 1) (.non)]))]
/-- taken_by_now: 6 slots, 3 parameters; 32 laws: k32 k33 k34 k35 k36 k37 k38 k39 k40 k41 k42 k43 -/
def P_taken_by_now : List CS := [
  .asgO 3 (.lst []),
  .for_ (.one 4) (.seq (.call "cells_of" [.var 0]))
  [.xpr (.mt .extend (.rd 3) [.lc (.tup [.var 4, .str "is", .var 5]) (.one 5) (.seq (.sub (.var 1) (.var 4))) [.cmp .nin (.var 5) (.sub (.var 2) (.var 4))]])],
  .ret (.mv 3)]
/-- lessened_clause: 8 slots, 4 parameters; 32 laws: k32 k33 k34 k35 k36 k37 k38 k39 k40 k41 k42 k43 -/
def P_lessened_clause : List CS := [
  .asg 4 (.bf .list (.var 3)),
  .for_ (.one 5) (.seq (.var 3))
  [.asg 6 (.lc (.var 7) (.one 7) (.seq (.var 4)) [.cmp .ne (.var 7) (.var 5)]), .ife (.call "follows_from" [.var 0, .bf .tuple (.bf .sorted (.bop .add (.var 2) (.var 6))), .var 1])
  [.asg 4 (.var 6)]
  []],
  .ret (.bf .tuple (.bf .sorted (.bop .add (.var 2) (.var 4))))]
/-- with_value: 4 slots, 3 parameters; 31 laws: k32 k33 k35 k36 k37 k38 k39 k40 k41 k42 k43 k44 -/
def P_with_value : List CS := [
  .asgO 3 (.bf .dict (.var 0)),
  .setI (.rd 3) (.var 1) (.tup [.var 2]),
  .ret (.mv 3)]
/-- looked_at: 7 slots, 3 parameters; 31 laws: k32 k33 k35 k36 k37 k38 k39 k40 k41 k42 k43 k44 -/
def P_looked_at : List CS := [
  .asgO 3 (.lst []),
  .asg 4 (.call "taken_by_now" [.var 0, .var 1, .var 2]),
  .for_ (.one 5) (.seq (.call "cells_of" [.var 0]))
  [.for_ (.one 6) (.seq (.sub (.var 2) (.var 5)))
  [.ife (.no (.call "may_be_kept" [.var 0, .call "with_value" [.var 2, .var 5, .var 6]]))
  [.xpr (.mt .append (.rd 3) [.tup [.var 5, .var 6, .call "lessened_clause" [.var 0, .var 1, .lst [.tup [.var 5, .str "not", .var 6]], .var 4]]])]
  []]],
  .ret (.mv 3)]
/-- _law_now: 6 slots, 2 parameters; 4 laws: k32 k33 k34 k35 -/
def L_now : List CS := [
  .asgO 2 (.dis []),
  .for_ (.one 3) (.seq (.var 1))
  [.asg 4 (.lc (.var 5) (.one 5) (.seq (.sub (.var 1) (.var 3))) [.cmp .gt (.call "_law_draw" [.var 0, .int 3]) (.int 0)]), .ife (.cmp .eq (.var 4) (.lst []))
  [.asg 4 (.lst [.sub (.sub (.var 1) (.var 3)) (.call "_law_draw" [.var 0, .bf .len (.sub (.var 1) (.var 3))])])]
  [], .setI (.rd 2) (.var 3) (.bf .tuple (.var 4))],
  .ret (.mv 2)]
/-- _law_holds: 5 slots, 2 parameters; 3 laws: k33 k34 k36 -/
def L_holds : List CS := [
  .for_ (.many [2, 3, 4]) (.seq (.var 0))
  [.ife (.cmp .eq (.cmp .eq (.sub (.var 1) (.var 2)) (.var 4)) (.cmp .eq (.var 3) (.str "is")))
  [.ret (.bl true)]
  []],
  .ret (.bl false)]
/-- dead_clause: 3 slots, 3 parameters; 30 laws: k34 k35 k36 k37 k38 k39 k40 k41 k42 k43 k44 k45 -/
def P_dead_clause : List CS := [
  .ife (.call "may_be_kept" [.var 0, .var 2])
  [.ret (.non)]
  [],
  .ret (.call "lessened_clause" [.var 0, .var 1, .lst [], .call "taken_by_now" [.var 0, .var 1, .var 2]])]
/-- groups_of: 13 slots, 2 parameters; 28 laws: k36 k37 k38 k39 k40 k41 k42 k43 k44 k45 k46 k47 -/
def P_groups_of : List CS := [
  .asg 2 (.bop .add (.lst [.tup [.lst [], .lst []]]) (.lc (.tup [.lst [.var 3], .lst []]) (.many [3, 4]) (.seq (.sub (.var 0) (.int 0))) [.cmp .gt (.bf .len (.var 4)) (.int 1)])),
  .for_ (.many [5, 6]) (.enu (.sub (.var 0) (.int 1)))
  [.ife (.call "may_be_broken" [.var 6, .var 1])
  [.asg 7 (.call "cells_of" [.var 6]), .asg 8 (.lc (.var 9) (.one 9) (.seq (.var 2)) [.bf .any (.lc (.cmp .inn (.var 3) (.var 7)) (.one 3) (.seq (.sub (.var 9) (.int 0))) [])]), .asgO 10 (.lc (.var 9) (.one 9) (.seq (.var 2)) [.cmp .nin (.var 9) (.var 8)]), .ife (.cmp .eq (.var 8) (.lst []))
  [.asg 8 (.lst [.mt .popAt (.rd 10) [.int 0]])]
  [], .asgO 11 (.lst []), .asgO 12 (.lst [.var 5]), .for_ (.one 9) (.seq (.var 8))
  [.xpr (.mt .extend (.rd 11) [.sub (.var 9) (.int 0)]), .xpr (.mt .extend (.rd 12) [.sub (.var 9) (.int 1)])], .ife (.cmp .eq (.rd 11) (.lst []))
  [.frz 11 (.asg 2 (.bop .add (.lst [.tup [.rd 11, .bf .sorted (.rd 12)]]) (.rd 10)))]
  [.frz 11 (.asg 2 (.bop .add (.rd 10) (.lst [.tup [.rd 11, .bf .sorted (.rd 12)]])))]]
  []],
  .ret (.var 2)]
/-- seek: 7 slots, 1 parameters; 24 laws: k36 k37 k38 k39 k40 k41 k42 k43 k44 k45 k46 k47 -/
def P_seek : List CS := [
  .asg 1 (.new "Trail" [.var 0]),
  .for_ (.many [2, 3]) (.seq (.call "groups_of" [.var 0, .attr (.var 1) "begun"]))
  [.ife (.cmp .isn (.call "sought" [.var 1, .var 2, .var 3]) (.non))
  [.xpr (.meth "note_line" (.var 1) [.non, .tup []]), .ret (.tup [.str "none", .bf .tuple (.attr (.var 1) "lines")])]
  []],
  .asgO 4 (.dis []),
  .for_ (.many [5, 6]) (.seq (.sub (.var 0) (.int 0)))
  [.setI (.rd 4) (.var 5) (.sub (.sub (.attr (.var 1) "rooms") (.var 5)) (.int 0))],
  .frz 4 (.ret (.tup [.str "fits", .rd 4]))]
/-- _law_fits: 5 slots, 2 parameters; 3 laws: k36 k38 k41 -/
def L_fits : List CS := [
  .ife (.orr (.no (.bf (.isa "dict") (.var 1))) (.cmp .ne (.bf .sorted (.var 1)) (.bf .sorted (.lc (.var 2) (.many [2, 3]) (.seq (.sub (.var 0) (.int 0))) []))))
  [.ret (.bl false)]
  [],
  .for_ (.many [2, 3]) (.seq (.sub (.var 0) (.int 0)))
  [.ife (.orr (.no (.bf (.isa "int") (.sub (.var 1) (.var 2)))) (.orr (.bf (.isa "bool") (.sub (.var 1) (.var 2))) (.cmp .nin (.sub (.var 1) (.var 2)) (.var 3))))
  [.ret (.bl false)]
  []],
  .ret (.bf .all (.lc (.call "_law_kept" [.var 4, .var 1]) (.one 4) (.seq (.sub (.var 0) (.int 1))) []))]
/-- Trail.__init__: 2 slots, 2 parameters; 28 laws: k36 k37 k38 k39 k40 k41 k42 k43 k44 k45 k46 k47 -/
def M_Trail___init__ : List CS := [
  .setA (.var 0) "wishes" (.sub (.var 1) (.int 1)),
  .setA (.var 0) "begun" (.al (.call "first_rooms" [.var 1])),
  .setA (.var 0) "rooms" (.al (.call "first_rooms" [.var 1])),
  .setA (.var 0) "taken" (.al (.lst [])),
  .setA (.var 0) "leaned" (.al (.dis [])),
  .setA (.var 0) "lines" (.al (.lst [])),
  .setA (.var 0) "noted" (.al (.dis []))]
/-- Trail.note_line: 3 slots, 3 parameters; 28 laws: k36 k37 k38 k39 k40 k41 k42 k43 k44 k45 k46 k47 -/
def M_Trail_note_line : List CS := [
  .ife (.cmp .nin (.var 2) (.attr (.var 0) "noted"))
  [.setI (.attr (.var 0) "noted") (.var 2) (.bl true), .xpr (.mt .append (.attr (.var 0) "lines") [.tup [.var 1, .var 2]])]
  []]
/-- Trail.take_away: 5 slots, 4 parameters; 28 laws: k36 k37 k38 k39 k40 k41 k42 k43 k44 k45 k46 k47 -/
def M_Trail_take_away : List CS := [
  .setI (.attr (.var 0) "rooms") (.var 1) (.bf .tuple (.lc (.var 4) (.one 4) (.seq (.sub (.attr (.var 0) "rooms") (.var 1))) [.cmp .ne (.var 4) (.var 2)])),
  .xpr (.mt .append (.attr (.var 0) "taken") [.tup [.var 1, .var 2]]),
  .setI (.attr (.var 0) "leaned") (.tup [.var 1, .var 2]) (.var 3)]
/-- Trail.choose: 4 slots, 3 parameters; 28 laws: k36 k37 k38 k39 k40 k41 k42 k43 k44 k45 k46 k47 -/
def M_Trail_choose : List CS := [
  .for_ (.one 3) (.seq (.bf .list (.sub (.attr (.var 0) "rooms") (.var 1))))
  [.ife (.cmp .ne (.var 3) (.var 2))
  [.xpr (.meth "take_away" (.var 0) [.var 1, .var 3, .lst [.tup [.var 1, .str "not", .var 2]]])]
  []]]
/-- Trail.go_back: 4 slots, 2 parameters; 28 laws: k36 k37 k38 k39 k40 k41 k42 k43 k44 k45 k46 k47 -/
def M_Trail_go_back : List CS := [
  .whl (.cmp .gt (.bf .len (.attr (.var 0) "taken")) (.var 1))
  [.asgT [2, 3] (.mt .pop (.attr (.var 0) "taken") []), .setI (.attr (.var 0) "rooms") (.var 2) (.bf .tuple (.bf .sorted (.bop .add (.sub (.attr (.var 0) "rooms") (.var 2)) (.tup [.var 3]))))]]
/-- Trail.narrow: 10 slots, 2 parameters; 28 laws: k36 k37 k38 k39 k40 k41 k42 k43 k44 k45 k46 k47 -/
def M_Trail_narrow : List CS := [
  .asg 2 (.bl true),
  .whl (.var 2)
  [.asg 2 (.bl false), .for_ (.one 3) (.seq (.var 1))
  [.asg 4 (.sub (.attr (.var 0) "wishes") (.var 3)), .asg 5 (.call "dead_clause" [.var 4, .attr (.var 0) "begun", .attr (.var 0) "rooms"]), .ife (.cmp .isn (.var 5) (.non))
  [.xpr (.meth "note_line" (.var 0) [.var 3, .var 5]), .ret (.var 5)]
  [], .for_ (.many [6, 7, 8]) (.seq (.call "looked_at" [.var 4, .attr (.var 0) "begun", .attr (.var 0) "rooms"]))
  [.asg 2 (.bl true), .xpr (.meth "note_line" (.var 0) [.var 3, .var 8]), .xpr (.meth "take_away" (.var 0) [.var 6, .var 7, .lc (.var 9) (.one 9) (.seq (.var 8)) [.cmp .eq (.sub (.var 9) (.int 1)) (.str "is")]])]]],
  .ret (.non)]
/-- Trail.choices_of: 6 slots, 2 parameters; 28 laws: k36 k37 k38 k39 k40 k41 k42 k43 k44 k45 k46 k47 -/
def M_Trail_choices_of : List CS := [
  .asgO 2 (.lst []),
  .asgO 3 (.dis []),
  .asgO 4 (.bf .list (.var 1)),
  .whl (.cmp .gt (.bf .len (.rd 4)) (.int 0))
  [.asg 5 (.mt .pop (.rd 4) []), .ife (.cmp .nin (.var 5) (.rd 3))
  [.setI (.rd 3) (.var 5) (.bl true), .ife (.cmp .eq (.sub (.var 5) (.int 1)) (.str "not"))
  [.xpr (.mt .append (.rd 2) [.var 5])]
  [.xpr (.mt .extend (.rd 4) [.sub (.attr (.var 0) "leaned") (.tup [.sub (.var 5) (.int 0), .sub (.var 5) (.int 2)])])]]
  []],
  .ret (.bf .sorted (.rd 2))]
/-- _law_pairs: 13 slots, 2 parameters; 2 laws: k48 k71 -/
def L_pairs : List CS := [
  .asg 2 (.call "_law_names" [.var 0, .bop .mul (.int 2) (.var 1)]),
  .asg 3 (.call "_law_pool" [.var 0]),
  .asg 4 (.call "_law_rooms" [.var 0, .var 2, .var 3, .int 3]),
  .asg 5 (.bf .tuple (.lc (.tup [.var 6, .sub (.var 4) (.var 6)]) (.one 6) (.seq (.var 2)) [])),
  .asgO 7 (.lst []),
  .for_ (.one 8) (.rng (.var 1))
  [.asg 9 (.slc (.var 2) (some (.bop .mul (.int 2) (.var 8))) (some (.bop .add (.bop .mul (.int 2) (.var 8)) (.int 2)))), .asg 10 (.lst [.str "unlike", .str "many", .str "sum", .str "table", .str "way", .str "behind", .str "same"]), .asg 11 (.lc (.call "_law_wish" [.var 0, .var 9, .var 4, .var 3, .var 10]) (.one 12) (.rng (.call "_law_draw" [.var 0, .int 3])) []), .xpr (.mt .append (.rd 7) [.tup [.bf .tuple (.lc (.tup [.var 6, .sub (.var 4) (.var 6)]) (.one 6) (.seq (.var 9)) []), .bf .tuple (.var 11)]])],
  .frz 7 (.ret (.tup [.var 5, .rd 7]))]
/-- worth_of: 4 slots, 2 parameters; 8 laws: k42 k43 k47 k69 k70 k71 k82 k83 -/
def P_worth_of : List CS := [
  .ret (.bf .sum (.lc (.bop .mul (.var 2) (.sub (.var 1) (.var 3))) (.many [2, 3]) (.seq (.var 0)) []))]
/-- hall_above: 5 slots, 3 parameters; 8 laws: k42 k43 k47 k69 k70 k71 k82 k83 -/
def P_hall_above : List CS := [
  .asgT [3, 4] (.var 0),
  .ret (.tup [.var 3, .bop .add (.var 4) (.tup [.tup [.str "sum", .var 1, .bop .add (.var 2) (.int 1), .non]])])]
/-- worths_by_rooms: 9 slots, 2 parameters; 8 laws: k42 k43 k47 k69 k70 k71 k82 k83 -/
def P_worths_by_rooms : List CS := [
  .asg 2 (.bf .dict (.sub (.var 0) (.int 0))),
  .asg 3 (.dis [.int 0, .bl true]),
  .for_ (.many [4, 5]) (.seq (.var 1))
  [.asgO 6 (.dis []), .for_ (.one 7) (.keys (.var 3))
  [.for_ (.one 8) (.seq (.sub (.var 2) (.var 5)))
  [.setI (.rd 6) (.bop .add (.var 7) (.bop .mul (.var 4) (.var 8))) (.bl true)]], .frz 6 (.asg 3 (.rd 6))],
  .ret (.bf .sorted (.var 3))]
/-- best_of: 8 slots, 2 parameters; 8 laws: k42 k43 k47 k69 k70 k71 k82 k83 -/
def P_best_of : List CS := [
  .asg 2 (.call "seek" [.var 0]),
  .ife (.cmp .eq (.sub (.var 2) (.int 0)) (.str "none"))
  [.ret (.var 2)]
  [],
  .asg 3 (.sub (.var 2) (.int 1)),
  .asg 4 (.call "worths_by_rooms" [.var 0, .var 1]),
  .asg 5 (.mt .index (.var 4) [.call "worth_of" [.var 1, .var 3]]),
  .asg 6 (.bop .sub (.bf .len (.var 4)) (.int 1)),
  .whl (.cmp .lt (.var 5) (.var 6))
  [.asg 7 (.bop .fdiv (.bop .add (.var 5) (.var 6)) (.int 2)), .asg 2 (.call "seek" [.call "hall_above" [.var 0, .var 1, .sub (.var 4) (.var 7)]]), .ife (.cmp .eq (.sub (.var 2) (.int 0)) (.str "fits"))
  [.asg 3 (.sub (.var 2) (.int 1)), .asg 5 (.mt .index (.var 4) [.call "worth_of" [.var 1, .var 3]])]
  [.asg 6 (.var 7)]],
  .ret (.tup [.str "best", .var 3, .sub (.var 4) (.var 5), .sub (.call "seek" [.call "hall_above" [.var 0, .var 1, .sub (.var 4) (.var 5)]]) (.int 1)])]
/-- _law_all_kept: 3 slots, 2 parameters; 8 laws: k42 k43 k44 k45 k46 k48 k69 k71 -/
def L_all_kept : List CS := [
  .ret (.bf .all (.lc (.call "_law_kept" [.var 2, .var 1]) (.one 2) (.seq (.sub (.var 0) (.int 1))) []))]
/-- _law_found: 5 slots, 1 parameters; 8 laws: k42 k43 k44 k45 k46 k48 k69 k71 -/
def L_found : List CS := [
  .asg 1 (.bf .dict (.sub (.var 0) (.int 0))),
  .asg 2 (.call "_law_fillings" [.lc (.sub (.var 3) (.int 0)) (.one 3) (.seq (.sub (.var 0) (.int 0))) [], .var 1]),
  .ret (.lc (.var 4) (.one 4) (.seq (.var 2)) [.call "_law_all_kept" [.var 0, .var 4]])]
/-- _law_is_filling: 4 slots, 2 parameters; 8 laws: k42 k43 k44 k45 k46 k48 k69 k71 -/
def L_is_filling : List CS := [
  .ife (.orr (.no (.bf (.isa "dict") (.var 1))) (.cmp .ne (.bf .len (.var 1)) (.bf .len (.sub (.var 0) (.int 0)))))
  [.ret (.bl false)]
  [],
  .for_ (.many [2, 3]) (.seq (.sub (.var 0) (.int 0)))
  [.ife (.orr (.cmp .nin (.var 2) (.var 1)) (.orr (.bf (.isa "bool") (.sub (.var 1) (.var 2))) (.cmp .nin (.sub (.var 1) (.var 2)) (.var 3))))
  [.ret (.bl false)]
  []],
  .ret (.bl true)]
/-- _law_worth: 4 slots, 2 parameters; 4 laws: k42 k47 k69 k83 -/
def L_worth : List CS := [
  .ret (.bf .sum (.lc (.bop .mul (.var 2) (.sub (.var 1) (.var 3))) (.many [2, 3]) (.seq (.var 0)) []))]
/-- _law_wide: 10 slots, 1 parameters; 3 laws: k42 k45 k46 -/
def L_wide : List CS := [
  .asg 1 (.call "_law_names" [.var 0, .bop .add (.int 1) (.call "_law_draw" [.var 0, .int 2])]),
  .asg 2 (.call "_law_pool" [.var 0]),
  .asg 2 (.bop .add (.lc (.bop .sub (.bop .sub (.var 3) (.bop .sub (.sub (.var 2) (.int 4)) (.sub (.var 2) (.int 0)))) (.int 1)) (.one 3) (.seq (.var 2)) []) (.var 2)),
  .asgO 4 (.call "_law_rooms" [.var 0, .var 1, .slc (.var 2) none (some (.int 5)), .int 5]),
  .for_ (.one 5) (.seq (.var 1))
  [.asg 6 (.lc (.var 3) (.one 3) (.seq (.var 2)) [.cmp .gt (.call "_law_draw" [.var 0, .int 4]) (.int 0)]), .setI (.rd 4) (.var 5) (.bf .tuple (.bop .add (.var 6) (.bop .mul (.slc (.var 2) none (some (.int 1))) (.bf .int (.cmp .eq (.var 6) (.lst []))))))],
  .asg 7 (.lst [.str "unlike", .str "many", .str "sum", .str "table", .str "way", .str "behind", .str "same"]),
  .frz 4 (.asg 8 (.lc (.call "_law_wish" [.var 0, .var 1, .rd 4, .slc (.var 2) none (some (.int 5)), .var 7]) (.one 9) (.rng (.call "_law_draw" [.var 0, .int 4])) [])),
  .ret (.tup [.bf .tuple (.lc (.tup [.var 5, .sub (.rd 4) (.var 5)]) (.one 5) (.seq (.var 1)) []), .bf .tuple (.var 8)])]
/-- _law_joined: 8 slots, 3 parameters; 3 laws: k43 k48 k71 -/
def L_joined : List CS := [
  .asgO 3 (.lst []),
  .for_ (.one 4) (.seq (.var 2))
  [.for_ (.one 5) (.seq (.sub (.var 4) (.int 1)))
  [.xpr (.mt .insert (.rd 3) [.call "_law_draw" [.var 0, .bop .add (.bf .len (.rd 3)) (.int 1)], .var 5])]],
  .asgO 6 (.bf .list (.var 1)),
  .asgO 7 (.lst []),
  .whl (.cmp .ne (.rd 6) (.lst []))
  [.xpr (.mt .append (.rd 7) [.mt .popAt (.rd 6) [.call "_law_draw" [.var 0, .bf .len (.rd 6)]]])],
  .ret (.tup [.bf .tuple (.rd 7), .bf .tuple (.rd 3)])]
/-- hall_with: 8 slots, 3 parameters; 10 laws: k44 k45 k47 k69 k70 k71 k81 k82 k83 k86 -/
def P_hall_with : List CS := [
  .asgT [3, 4] (.var 0),
  .asgO 5 (.lst []),
  .for_ (.many [6, 7]) (.seq (.var 3))
  [.ife (.cmp .eq (.var 6) (.var 1))
  [.asg 7 (.tup [.var 2])]
  [], .xpr (.mt .append (.rd 5) [.tup [.var 6, .var 7]])],
  .ret (.tup [.bf .tuple (.rd 5), .var 4])]
/-- can_be: 3 slots, 3 parameters; 10 laws: k44 k45 k47 k69 k70 k71 k81 k82 k83 k86 -/
def P_can_be : List CS := [
  .ret (.call "seek" [.call "hall_with" [.var 0, .var 1, .var 2]])]
/-- what_is_left: 8 slots, 1 parameters; 9 laws: k45 k47 k69 k70 k71 k81 k82 k83 k86 -/
def P_what_is_left : List CS := [
  .asgO 1 (.dis []),
  .for_ (.many [2, 3]) (.seq (.sub (.var 0) (.int 0)))
  [.for_ (.one 4) (.seq (.var 3))
  [.ife (.cmp .nin (.tup [.var 2, .var 4]) (.rd 1))
  [.asg 5 (.call "can_be" [.var 0, .var 2, .var 4]), .ife (.cmp .eq (.sub (.var 5) (.int 0)) (.str "fits"))
  [.for_ (.one 6) (.items (.sub (.var 5) (.int 1)))
  [.setI (.rd 1) (.var 6) (.bl true)]]
  []]
  []]],
  .asgO 7 (.dis []),
  .for_ (.many [2, 3]) (.seq (.sub (.var 0) (.int 0)))
  [.setI (.rd 7) (.var 2) (.bf .tuple (.lc (.var 4) (.one 4) (.seq (.var 3)) [.cmp .inn (.tup [.var 2, .var 4]) (.rd 1)]))],
  .ret (.mv 7)]
/-- hall_of_some: 5 slots, 2 parameters; 7 laws: k46 k48 k69 k70 k71 k72 k82 -/
def P_hall_of_some : List CS := [
  .asgT [2, 3] (.var 0),
  .ret (.tup [.var 2, .bf .tuple (.lc (.sub (.var 3) (.var 4)) (.one 4) (.seq (.var 1)) [])])]
/-- told_by: 5 slots, 2 parameters; 7 laws: k46 k48 k69 k70 k71 k72 k82 -/
def P_told_by : List CS := [
  .asgO 2 (.lst []),
  .for_ (.many [3, 4]) (.seq (.var 0))
  [.ife (.cmp .isn (.var 3) (.non))
  [.asg 3 (.sub (.var 1) (.var 3))]
  [], .xpr (.mt .append (.rd 2) [.tup [.var 3, .var 4]])],
  .ret (.bf .tuple (.rd 2))]
/-- lessened: 7 slots, 1 parameters; 7 laws: k46 k48 k69 k70 k71 k72 k82 -/
def P_lessened : List CS := [
  .asg 1 (.call "seek" [.var 0]),
  .ife (.cmp .eq (.sub (.var 1) (.int 0)) (.str "fits"))
  [.ret (.var 1)]
  [],
  .asg 2 (.sub (.var 1) (.int 1)),
  .asg 3 (.call "named_in" [.var 2]),
  .asgO 4 (.lst []),
  .whl (.cmp .lt (.bf .len (.rd 4)) (.bf .len (.var 3)))
  [.asg 5 (.bf .len (.rd 4)), .asg 6 (.bop .add (.slc (.var 3) none (some (.var 5))) (.slc (.var 3) (some (.bop .add (.var 5) (.int 1))) none)), .asg 1 (.call "seek" [.call "hall_of_some" [.var 0, .var 6]]), .ife (.cmp .eq (.sub (.var 1) (.int 0)) (.str "fits"))
  [.xpr (.mt .append (.rd 4) [.sub (.var 1) (.int 1)])]
  [.asg 2 (.call "told_by" [.sub (.var 1) (.int 1), .var 6]), .asg 3 (.call "named_in" [.var 2])]],
  .frz 4 (.ret (.tup [.str "least", .bf .tuple (.var 3), .var 2, .rd 4]))]
/-- is_whole: 1 slots, 1 parameters; 18 laws: k49 k55 k58 k59 k60 k61 k64 k65 k66 k69 k70 k71 -/
def P_is_whole : List CS := [
  .ret (.and (.bf (.isa "int") (.var 0)) (.no (.bf (.isa "bool") (.var 0))))]
/-- is_turning: 1 slots, 1 parameters; 18 laws: k49 k55 k58 k59 k60 k61 k64 k65 k66 k69 k70 k71 -/
def P_is_turning : List CS := [
  .ife (.orr (.no (.bf (.isa "tuple") (.var 0))) (.cmp .ne (.bf .len (.var 0)) (.int 2)))
  [.ret (.bl false)]
  [],
  .ife (.orr (.no (.bf (.isa "dict") (.sub (.var 0) (.int 0)))) (.no (.bf (.isa "dict") (.sub (.var 0) (.int 1)))))
  [.ret (.bl false)]
  [],
  .ret (.and (.call "is_exchange" [.sub (.var 0) (.int 0), .glo "is_name"]) (.call "is_exchange" [.sub (.var 0) (.int 1), .glo "is_whole"]))]
/-- led: 2 slots, 2 parameters; 22 laws: k49 k50 k52 k53 k54 k55 k58 k59 k60 k61 k64 k65 -/
def P_led : List CS := [
  .ret (.mt .get2 (.var 0) [.var 1, .var 1])]
/-- led_all: 3 slots, 2 parameters; 22 laws: k49 k50 k52 k53 k54 k55 k58 k59 k60 k61 k64 k65 -/
def P_led_all : List CS := [
  .ret (.bf .tuple (.lc (.call "led" [.var 0, .var 2]) (.one 2) (.seq (.var 1)) []))]
/-- turned_filling: 5 slots, 2 parameters; 4 laws: k49 k50 k53 k55 -/
def P_turned_filling : List CS := [
  .asgO 2 (.dis []),
  .for_ (.many [3, 4]) (.items (.var 1))
  [.setI (.rd 2) (.call "led" [.sub (.var 0) (.int 0), .var 3]) (.call "led" [.sub (.var 0) (.int 1), .var 4])],
  .ret (.mv 2)]
/-- turned_rooms: 5 slots, 2 parameters; 21 laws: k49 k52 k53 k54 k55 k58 k59 k60 k61 k64 k65 k66 -/
def P_turned_rooms : List CS := [
  .asgO 2 (.dis []),
  .for_ (.many [3, 4]) (.items (.var 1))
  [.setI (.rd 2) (.call "led" [.sub (.var 0) (.int 0), .var 3]) (.bf .tuple (.bf .sorted (.call "led_all" [.sub (.var 0) (.int 1), .var 4])))],
  .ret (.mv 2)]
/-- _law_leads: 6 slots, 2 parameters; 7 laws: k49 k50 k52 k53 k54 k55 k84 -/
def L_leads : List CS := [
  .asg 2 (.call "_law_some" [.var 0, .var 1, .int 0]),
  .asg 3 (.call "_law_some" [.var 0, .var 2, .bf .len (.var 2)]),
  .asgO 4 (.dis []),
  .for_ (.one 5) (.rng (.bf .len (.var 2)))
  [.setI (.rd 4) (.sub (.var 2) (.var 5)) (.sub (.var 3) (.var 5))],
  .ret (.mv 4)]
/-- _law_back: 3 slots, 1 parameters; 4 laws: k49 k50 k52 k55 -/
def L_back : List CS := [
  .asgO 1 (.dis []),
  .for_ (.one 2) (.seq (.var 0))
  [.setI (.rd 1) (.sub (.var 0) (.var 2)) (.var 2)],
  .ret (.mv 1)]
/-- values_stay: 3 slots, 1 parameters; 21 laws: k50 k52 k53 k54 k55 k58 k59 k60 k61 k64 k65 k66 -/
def P_values_stay : List CS := [
  .for_ (.many [1, 2]) (.items (.sub (.var 0) (.int 1)))
  [.ife (.cmp .ne (.var 1) (.var 2))
  [.ret (.bl false)]
  []],
  .ret (.bl true)]
/-- turned_same: 3 slots, 2 parameters; 21 laws: k50 k52 k53 k54 k55 k58 k59 k60 k61 k64 k65 k66 -/
def P_turned_same : List CS := [
  .asg 2 (.call "turned_wish" [.var 0, .sub (.var 1) (.int 3)]),
  .ife (.cmp .is (.var 2) (.non))
  [.ret (.non)]
  [],
  .ret (.tup [.str "same", .call "led" [.sub (.var 0) (.int 0), .sub (.var 1) (.int 1)], .call "led_all" [.sub (.var 0) (.int 1), .sub (.var 1) (.int 2)], .var 2])]
/-- turned_steps: 5 slots, 2 parameters; 21 laws: k50 k52 k53 k54 k55 k58 k59 k60 k61 k64 k65 k66 -/
def P_turned_steps : List CS := [
  .ret (.bf .tuple (.lc (.tup [.var 2, .call "led" [.sub (.var 0) (.int 1), .var 3], .var 4]) (.many [2, 3, 4]) (.seq (.var 1)) []))]
/-- turned_wish: 8 slots, 2 parameters; 21 laws: k50 k52 k53 k54 k55 k58 k59 k60 k61 k64 k65 k66 -/
def P_turned_wish : List CS := [
  .asg 2 (.sub (.var 1) (.int 0)),
  .asgT [3, 4] (.var 0),
  .ife (.cmp .eq (.var 2) (.str "same"))
  [.ret (.call "turned_same" [.var 0, .var 1])]
  [],
  .ife (.cmp .eq (.var 2) (.str "many"))
  [.ret (.tup [.str "many", .call "led_all" [.var 4, .sub (.var 1) (.int 1)], .call "led_all" [.var 3, .sub (.var 1) (.int 2)], .sub (.var 1) (.int 3), .sub (.var 1) (.int 4)])]
  [],
  .ife (.cmp .eq (.var 2) (.str "unlike"))
  [.ret (.tup [.str "unlike", .call "led_all" [.var 3, .sub (.var 1) (.int 1)]])]
  [],
  .ife (.cmp .eq (.var 2) (.str "table"))
  [.ret (.tup [.str "table", .call "led_all" [.var 3, .sub (.var 1) (.int 1)], .bf .tuple (.lc (.call "led_all" [.var 4, .var 5]) (.one 5) (.seq (.sub (.var 1) (.int 2))) [])])]
  [],
  .ife (.cmp .eq (.var 2) (.str "way"))
  [.ret (.tup [.str "way", .call "led_all" [.var 3, .sub (.var 1) (.int 1)], .call "turned_steps" [.var 0, .sub (.var 1) (.int 2)], .sub (.var 1) (.int 3)])]
  [],
  .ife (.no (.call "values_stay" [.var 0]))
  [.ret (.non)]
  [],
  .ife (.cmp .eq (.var 2) (.str "sum"))
  [.ret (.tup [.str "sum", .bf .tuple (.lc (.tup [.var 6, .call "led" [.var 3, .var 7]]) (.many [6, 7]) (.seq (.sub (.var 1) (.int 1))) []), .sub (.var 1) (.int 2), .sub (.var 1) (.int 3)])]
  [],
  .ret (.tup [.str "behind", .call "led_all" [.var 3, .sub (.var 1) (.int 1)], .sub (.var 1) (.int 2)])]
/-- _law_moved: 3 slots, 2 parameters; 6 laws: k50 k52 k53 k54 k55 k84 -/
def L_moved : List CS := [
  .ret (.bf .tuple (.lc (.mt .get2 (.var 0) [.var 2, .var 2]) (.one 2) (.seq (.var 1)) []))]
/-- _law_led_wish: 12 slots, 2 parameters; 6 laws: k50 k52 k53 k54 k55 k84 -/
def L_led_wish : List CS := [
  .asgT [2, 3] (.var 0),
  .ife (.cmp .eq (.sub (.var 1) (.int 0)) (.str "same"))
  [.asg 4 (.call "_law_led_wish" [.var 0, .sub (.var 1) (.int 3)]), .ife (.cmp .is (.var 4) (.non))
  [.ret (.non)]
  [], .ret (.tup [.str "same", .mt .get2 (.var 2) [.sub (.var 1) (.int 1), .sub (.var 1) (.int 1)], .call "_law_moved" [.var 3, .sub (.var 1) (.int 2)], .var 4])]
  [],
  .ife (.and (.cmp .inn (.sub (.var 1) (.int 0)) (.tup [.str "sum", .str "behind"])) (.bf .any (.lc (.cmp .ne (.var 5) (.sub (.var 3) (.var 5))) (.one 5) (.seq (.var 3)) [])))
  [.ret (.non)]
  [],
  .ife (.cmp .eq (.sub (.var 1) (.int 0)) (.str "sum"))
  [.ret (.bop .add (.tup [.str "sum", .bf .tuple (.lc (.tup [.var 6, .mt .get2 (.var 2) [.var 7, .var 7]]) (.many [6, 7]) (.seq (.sub (.var 1) (.int 1))) [])]) (.slc (.var 1) (some (.int 2)) none))]
  [],
  .ife (.cmp .eq (.sub (.var 1) (.int 0)) (.str "many"))
  [.ret (.bop .add (.tup [.str "many", .call "_law_moved" [.var 3, .sub (.var 1) (.int 1)], .call "_law_moved" [.var 2, .sub (.var 1) (.int 2)]]) (.slc (.var 1) (some (.int 3)) none))]
  [],
  .asg 8 (.tup [.sub (.var 1) (.int 0), .call "_law_moved" [.var 2, .sub (.var 1) (.int 1)]]),
  .ife (.cmp .eq (.sub (.var 1) (.int 0)) (.str "table"))
  [.ret (.bop .add (.var 8) (.tup [.bf .tuple (.lc (.call "_law_moved" [.var 3, .var 9]) (.one 9) (.seq (.sub (.var 1) (.int 2))) [])]))]
  [],
  .ife (.cmp .eq (.sub (.var 1) (.int 0)) (.str "way"))
  [.asg 10 (.lc (.tup [.sub (.var 11) (.int 0), .mt .get2 (.var 3) [.sub (.var 11) (.int 1), .sub (.var 11) (.int 1)], .sub (.var 11) (.int 2)]) (.one 11) (.seq (.sub (.var 1) (.int 2))) []), .ret (.bop .add (.var 8) (.tup [.bf .tuple (.var 10), .sub (.var 1) (.int 3)]))]
  [],
  .ret (.bop .add (.var 8) (.slc (.var 1) (some (.int 2)) none))]
/-- _law_insert: 4 slots, 3 parameters; 5 laws: k51 k52 k53 k54 k55 -/
def L_insert : List CS := [
  .asg 3 (.int 0),
  .whl (.and (.cmp .lt (.var 3) (.bf .len (.var 0))) (.cmp .le (.sub (.sub (.var 0) (.var 3)) (.int 0)) (.var 2)))
  [.asg 3 (.bop .add (.var 3) (.int 1))],
  .xpr (.mt .insert (.var 0) [.var 3, .tup [.var 2, .var 1]])]
/-- _law_by_key: 6 slots, 2 parameters; 5 laws: k51 k52 k53 k54 k55 -/
def L_by_key : List CS := [
  .asg 2 (.lst []),
  .for_ (.one 3) (.rng (.bf .len (.var 0)))
  [.xpr (.call "_law_insert" [.var 2, .sub (.var 0) (.var 3), .sub (.var 1) (.var 3)])],
  .ret (.lc (.var 5) (.many [4, 5]) (.seq (.var 2)) [])]
/-- _law_rising: 1 slots, 1 parameters; 5 laws: k51 k52 k53 k54 k55 -/
def L_rising : List CS := [
  .ret (.bf .tuple (.call "_law_by_key" [.bf .list (.var 0), .bf .list (.var 0)]))]
/-- _law_plain: 5 slots, 1 parameters; 5 laws: k51 k52 k53 k54 k55 -/
def L_plain : List CS := [
  .ife (.cmp .eq (.sub (.var 0) (.int 0)) (.str "same"))
  [.ret (.tup [.str "same", .sub (.var 0) (.int 1), .call "_law_rising" [.sub (.var 0) (.int 2)], .call "_law_plain" [.sub (.var 0) (.int 3)]])]
  [],
  .ife (.cmp .eq (.sub (.var 0) (.int 0)) (.str "many"))
  [.ret (.tup [.str "many", .call "_law_rising" [.sub (.var 0) (.int 1)], .call "_law_rising" [.sub (.var 0) (.int 2)], .sub (.var 0) (.int 3), .sub (.var 0) (.int 4)])]
  [],
  .ife (.cmp .eq (.sub (.var 0) (.int 0)) (.str "unlike"))
  [.ret (.tup [.str "unlike", .call "_law_rising" [.sub (.var 0) (.int 1)]])]
  [],
  .ife (.cmp .eq (.sub (.var 0) (.int 0)) (.str "sum"))
  [.ret (.bop .add (.tup [.str "sum", .bf .tuple (.call "_law_by_key" [.bf .list (.sub (.var 0) (.int 1)), .lc (.var 2) (.many [1, 2]) (.seq (.sub (.var 0) (.int 1))) []])]) (.slc (.var 0) (some (.int 2)) none))]
  [],
  .ife (.cmp .eq (.sub (.var 0) (.int 0)) (.str "way"))
  [.ret (.tup [.str "way", .sub (.var 0) (.int 1), .call "_law_rising" [.sub (.var 0) (.int 2)], .call "_law_rising" [.sub (.var 0) (.int 3)]])]
  [],
  .ife (.cmp .eq (.sub (.var 0) (.int 0)) (.str "table"))
  [.asg 3 (.lc (.bf .tuple (.call "_law_by_key" [.bf .list (.var 4), .bf .list (.sub (.var 0) (.int 1))])) (.one 4) (.seq (.sub (.var 0) (.int 2))) []), .ret (.tup [.str "table", .call "_law_rising" [.sub (.var 0) (.int 1)], .call "_law_rising" [.var 3]])]
  [],
  .ret (.var 0)]
/-- how_often: 3 slots, 1 parameters; 8 laws: k52 k53 k54 k55 k69 k70 k71 k82 -/
def P_how_often : List CS := [
  .asgO 1 (.dis []),
  .for_ (.one 2) (.seq (.var 0))
  [.setI (.rd 1) (.var 2) (.bop .add (.mt .get2 (.rd 1) [.var 2, .int 0]) (.int 1))],
  .ret (.mv 1)]
/-- leads_wishes: 7 slots, 3 parameters; 8 laws: k52 k53 k54 k55 k69 k70 k71 k82 -/
def P_leads_wishes : List CS := [
  .asgO 3 (.lst []),
  .for_ (.one 4) (.seq (.var 1))
  [.asg 5 (.call "turned_wish" [.var 0, .var 4]), .ife (.cmp .is (.var 5) (.non))
  [.ret (.bl false)]
  [], .xpr (.mt .append (.rd 3) [.call "plain_form" [.var 5]])],
  .frz 3 (.ret (.cmp .eq (.call "how_often" [.rd 3]) (.call "how_often" [.lc (.call "plain_form" [.var 6]) (.one 6) (.seq (.var 2)) []])))]
/-- leads_on: 4 slots, 2 parameters; 8 laws: k52 k53 k54 k55 k69 k70 k71 k82 -/
def P_leads_on : List CS := [
  .asg 2 (.call "first_rooms" [.var 0]),
  .for_ (.one 3) (.seq (.sub (.var 1) (.int 0)))
  [.ife (.cmp .nin (.var 3) (.var 2))
  [.ret (.bl false)]
  []],
  .ret (.and (.cmp .eq (.call "turned_rooms" [.var 1, .var 2]) (.var 2)) (.call "leads_wishes" [.var 1, .sub (.var 0) (.int 1), .sub (.var 0) (.int 1)]))]
/-- _law_even_wishes: 10 slots, 5 parameters; 4 laws: k52 k53 k54 k55 -/
def L_even_wishes : List CS := [
  .asg 5 (.lst [.str "unlike", .str "many", .str "sum", .str "table", .str "way", .str "behind", .str "same"]),
  .asgO 6 (.lst []),
  .for_ (.one 7) (.rng (.call "_law_draw" [.var 0, .int 4]))
  [.asg 8 (.call "_law_wish" [.var 0, .var 1, .var 2, .var 3, .var 5]), .asgO 9 (.lst []), .whl (.and (.cmp .isn (.var 8) (.non)) (.and (.cmp .nin (.call "_law_plain" [.var 8]) (.rd 9)) (.cmp .lt (.bf .len (.rd 6)) (.int 14))))
  [.xpr (.mt .append (.rd 9) [.call "_law_plain" [.var 8]]), .xpr (.mt .append (.rd 6) [.call "_law_mixed_up" [.var 0, .var 8]]), .asg 8 (.call "_law_led_wish" [.var 4, .var 8])], .ife (.cmp .is (.var 8) (.non))
  [.asgO 6 (.slc (.rd 6) none (some (.bop .sub (.bf .len (.rd 6)) (.bf .len (.rd 9)))))]
  []],
  .ret (.mv 6)]
/-- _law_even_hall: 10 slots, 2 parameters; 4 laws: k52 k53 k54 k55 -/
def L_even_hall : List CS := [
  .asg 2 (.call "_law_names" [.var 0, .bop .add (.int 1) (.call "_law_draw" [.var 0, .var 1])]),
  .asg 3 (.call "_law_pool" [.var 0]),
  .asg 4 (.tup [.call "_law_leads" [.var 0, .var 2], .call "_law_leads" [.var 0, .call "_law_some" [.var 0, .var 3, .int 0]]]),
  .ife (.cmp .eq (.call "_law_draw" [.var 0, .int 2]) (.int 0))
  [.asg 4 (.tup [.sub (.var 4) (.int 0), .dis []])]
  [],
  .asgO 5 (.call "_law_even_rooms" [.var 0, .var 2, .var 3, .var 4]),
  .frz 5 (.asgO 6 (.call "_law_even_wishes" [.var 0, .var 2, .rd 5, .var 3, .var 4])),
  .asg 7 (.call "_law_draw" [.var 0, .int 12]),
  .ife (.and (.cmp .eq (.var 7) (.int 0)) (.cmp .ne (.rd 6) (.lst [])))
  [.xpr (.mt .popAt (.rd 6) [.call "_law_draw" [.var 0, .bf .len (.rd 6)]])]
  [],
  .ife (.and (.cmp .eq (.var 7) (.int 1)) (.cmp .ne (.rd 6) (.lst [])))
  [.xpr (.mt .append (.rd 6) [.sub (.rd 6) (.call "_law_draw" [.var 0, .bf .len (.rd 6)])])]
  [],
  .ife (.cmp .eq (.var 7) (.int 2))
  [.setI (.rd 5) (.sub (.var 2) (.call "_law_draw" [.var 0, .bf .len (.var 2)])) (.tup [.sub (.var 3) (.call "_law_draw" [.var 0, .int 5])])]
  [],
  .ife (.cmp .eq (.var 7) (.int 3))
  [.frz 5 (.xpr (.mt .append (.rd 6) [.call "_law_wish" [.var 0, .var 2, .rd 5, .var 3, .lst [.str "unlike", .str "many", .str "sum", .str "table", .str "way", .str "behind"]]]))]
  [],
  .frz 6 (.asgO 6 (.call "_law_some" [.var 0, .rd 6, .bf .len (.rd 6)])),
  .asg 8 (.lc (.tup [.var 9, .sub (.rd 5) (.var 9)]) (.one 9) (.seq (.call "_law_some" [.var 0, .var 2, .bf .len (.var 2)])) []),
  .frz 6 (.ret (.lst [.tup [.bf .tuple (.var 8), .rd 6], .var 4, .var 3]))]
/-- exchange: 2 slots, 2 parameters; 5 laws: k54 k69 k70 k71 k82 -/
def P_exchange : List CS := [
  .ret (.dis [.var 0, .var 1, .var 1, .var 0])]
/-- pairs_of: 5 slots, 1 parameters; 5 laws: k54 k69 k70 k71 k82 -/
def P_pairs_of : List CS := [
  .asgO 1 (.lst []),
  .for_ (.many [2, 3]) (.enu (.var 0))
  [.xpr (.mt .extend (.rd 1) [.lc (.tup [.var 3, .var 4]) (.one 4) (.seq (.slc (.var 0) (some (.bop .add (.var 2) (.int 1))) none)) []])],
  .ret (.mv 1)]
/-- cell_swaps: 6 slots, 1 parameters; 5 laws: k54 k69 k70 k71 k82 -/
def P_cell_swaps : List CS := [
  .asg 1 (.lc (.var 2) (.many [2, 3]) (.seq (.sub (.var 0) (.int 0))) []),
  .ret (.lc (.tup [.var 4, .var 5]) (.many [4, 5]) (.seq (.call "pairs_of" [.var 1])) [.call "leads_on" [.var 0, .tup [.call "exchange" [.var 4, .var 5], .dis []]]])]
/-- all_values: 4 slots, 1 parameters; 5 laws: k54 k69 k70 k71 k82 -/
def P_all_values : List CS := [
  .asgO 1 (.dis []),
  .for_ (.one 2) (.values (.call "first_rooms" [.var 0]))
  [.for_ (.one 3) (.seq (.var 2))
  [.setI (.rd 1) (.var 3) (.bl true)]],
  .ret (.bf .sorted (.rd 1))]
/-- value_swaps: 3 slots, 1 parameters; 5 laws: k54 k69 k70 k71 k82 -/
def P_value_swaps : List CS := [
  .ret (.lc (.tup [.var 1, .var 2]) (.many [1, 2]) (.seq (.call "pairs_of" [.call "all_values" [.var 0]])) [.call "leads_on" [.var 0, .tup [.dis [], .call "exchange" [.var 1, .var 2]]]])]
/-- hall_of: 8 slots, 2 parameters; 17 laws: k56 k58 k59 k60 k61 k64 k65 k66 k69 k70 k71 k80 -/
def P_hall_of : List CS := [
  .asgT [2, 3] (.var 1),
  .asg 4 (.lc (.tup [.var 5, .sub (.var 2) (.var 5)]) (.many [5, 6]) (.seq (.sub (.var 0) (.int 0))) [.cmp .inn (.var 5) (.var 2)]),
  .ret (.tup [.bf .tuple (.var 4), .bf .tuple (.lc (.sub (.sub (.var 0) (.int 1)) (.var 7)) (.one 7) (.seq (.var 3)) [])])]
/-- is_room_within: 3 slots, 2 parameters; 17 laws: k56 k58 k59 k60 k61 k64 k65 k66 k69 k70 k71 k80 -/
def P_is_room_within : List CS := [
  .ife (.orr (.cmp .eq (.bf .len (.var 0)) (.int 0)) (.cmp .ne (.bf .list (.var 0)) (.bf .sortset (.var 0))))
  [.ret (.bl false)]
  [],
  .ret (.bf .all (.lc (.cmp .inn (.var 2) (.var 1)) (.one 2) (.seq (.var 0)) []))]
/-- is_case: 8 slots, 2 parameters; 17 laws: k56 k58 k59 k60 k61 k64 k65 k66 k69 k70 k71 k80 -/
def P_is_case : List CS := [
  .asgT [2, 3] (.var 1),
  .asg 4 (.call "first_rooms" [.var 0]),
  .for_ (.many [5, 6]) (.items (.var 2))
  [.ife (.orr (.cmp .nin (.var 5) (.var 4)) (.no (.call "is_room_within" [.var 6, .sub (.var 4) (.var 5)])))
  [.ret (.bl false)]
  []],
  .ife (.cmp .ne (.bf .list (.var 3)) (.bf .sortset (.var 3)))
  [.ret (.bl false)]
  [],
  .for_ (.one 7) (.seq (.var 3))
  [.ife (.orr (.no (.chn .le .lt (.int 0) (.var 7) (.bf .len (.sub (.var 0) (.int 1))))) (.no (.bf .all (.lc (.cmp .inn (.var 5) (.var 2)) (.one 5) (.seq (.call "cells_of" [.sub (.sub (.var 0) (.int 1)) (.var 7)])) []))))
  [.ret (.bl false)]
  []],
  .ret (.bl true)]
/-- _law_case: 8 slots, 2 parameters; 3 laws: k56 k57 k64 -/
def L_case : List CS := [
  .asg 2 (.lc (.var 3) (.one 3) (.rng (.bf .len (.sub (.var 1) (.int 1)))) [.cmp .gt (.call "_law_draw" [.var 0, .int 3]) (.int 0)]),
  .asgO 4 (.lst []),
  .for_ (.one 3) (.seq (.var 2))
  [.xpr (.mt .extend (.rd 4) [.call "_law_cells_of" [.sub (.sub (.var 1) (.int 1)) (.var 3)]])],
  .asgO 5 (.dis []),
  .for_ (.many [6, 7]) (.seq (.sub (.var 1) (.int 0)))
  [.ife (.orr (.cmp .inn (.var 6) (.rd 4)) (.cmp .eq (.call "_law_draw" [.var 0, .int 2]) (.int 0)))
  [.setI (.rd 5) (.var 6) (.call "_law_room" [.var 0, .var 7])]
  []],
  .frz 5 (.ret (.tup [.rd 5, .bf .tuple (.var 2)]))]
/-- is_idle: 2 slots, 2 parameters; 17 laws: k57 k58 k59 k60 k61 k64 k65 k66 k69 k70 k71 k80 -/
def P_is_idle : List CS := [
  .ret (.no (.call "may_be_broken" [.var 0, .var 1]))]
/-- wide_cells: 3 slots, 2 parameters; 13 laws: k57 k64 k65 k66 k69 k70 k71 k80 k81 k82 k84 k86 -/
def P_wide_cells : List CS := [
  .ret (.lc (.var 2) (.one 2) (.seq (.call "cells_of" [.var 0])) [.cmp .gt (.bf .len (.sub (.var 1) (.var 2))) (.int 1)])]
/-- _law_idle: 3 slots, 2 parameters; 5 laws: k57 k58 k59 k60 k61 -/
def L_idle : List CS := [
  .ret (.bf .all (.lc (.call "_law_kept" [.var 0, .var 2]) (.one 2) (.seq (.call "_law_fillings" [.call "_law_cells_of" [.var 0], .var 1])) []))]
/-- number_of_all: 7 slots, 2 parameters; 16 laws: k58 k59 k60 k61 k64 k65 k66 k69 k70 k71 k80 k81 -/
def P_number_of_all : List CS := [
  .asgT [2, 3] (.var 1),
  .ife (.no (.bf .all (.lc (.call "is_idle" [.sub (.sub (.var 0) (.int 1)) (.var 4), .var 2]) (.one 4) (.seq (.var 3)) [])))
  [.ret (.non)]
  [],
  .asg 5 (.int 1),
  .for_ (.one 6) (.values (.var 2))
  [.asg 5 (.bop .mul (.var 5) (.bf .len (.var 6)))],
  .ret (.var 5)]
/-- is_part: 5 slots, 3 parameters; 16 laws: k58 k59 k60 k61 k64 k65 k66 k69 k70 k71 k80 k81 -/
def P_is_part : List CS := [
  .ife (.orr (.cmp .ne (.sub (.var 2) (.int 1)) (.sub (.var 0) (.int 1))) (.cmp .ne (.bf .sorted (.sub (.var 2) (.int 0))) (.bf .sorted (.sub (.var 0) (.int 0)))))
  [.ret (.bl false)]
  [],
  .ret (.bf .all (.lc (.orr (.cmp .eq (.var 3) (.var 1)) (.cmp .eq (.sub (.sub (.var 2) (.int 0)) (.var 3)) (.var 4))) (.many [3, 4]) (.items (.sub (.var 0) (.int 0))) []))]
/-- are_parts: 5 slots, 3 parameters; 16 laws: k58 k59 k60 k61 k64 k65 k66 k69 k70 k71 k80 k81 -/
def P_are_parts : List CS := [
  .ife (.orr (.cmp .nin (.var 1) (.sub (.var 0) (.int 0))) (.no (.bf .all (.lc (.call "is_part" [.var 0, .var 1, .var 3]) (.one 3) (.seq (.var 2)) []))))
  [.ret (.bl false)]
  [],
  .asgO 4 (.lst []),
  .for_ (.one 3) (.seq (.var 2))
  [.xpr (.mt .extend (.rd 4) [.sub (.sub (.var 3) (.int 0)) (.var 1)])],
  .ret (.cmp .eq (.bf .sorted (.rd 4)) (.bf .list (.sub (.sub (.var 0) (.int 0)) (.var 1))))]
/-- are_apart: 10 slots, 3 parameters; 15 laws: k58 k59 k60 k61 k64 k65 k66 k69 k70 k71 k80 k81 -/
def P_are_apart : List CS := [
  .asgT [3, 4] (.var 1),
  .ife (.no (.bf .all (.lc (.call "is_within" [.var 1, .var 5]) (.one 5) (.seq (.var 2)) [])))
  [.ret (.bl false)]
  [],
  .for_ (.many [6, 7]) (.items (.var 3))
  [.asg 8 (.bf .len (.lc (.var 5) (.one 5) (.seq (.var 2)) [.cmp .inn (.var 6) (.sub (.var 5) (.int 0))])), .ife (.orr (.cmp .eq (.var 8) (.int 0)) (.and (.cmp .gt (.var 8) (.int 1)) (.cmp .gt (.bf .len (.var 7)) (.int 1))))
  [.ret (.bl false)]
  []],
  .for_ (.one 9) (.seq (.var 4))
  [.asg 8 (.bf .len (.lc (.var 5) (.one 5) (.seq (.var 2)) [.cmp .inn (.var 9) (.sub (.var 5) (.int 1))])), .ife (.orr (.cmp .gt (.var 8) (.int 1)) (.and (.cmp .eq (.var 8) (.int 0)) (.no (.call "is_idle" [.sub (.sub (.var 0) (.int 1)) (.var 9), .var 3]))))
  [.ret (.bl false)]
  []],
  .ret (.bl true)]
/-- lines_ahead: 4 slots, 2 parameters; 16 laws: k58 k59 k60 k61 k64 k65 k66 k69 k70 k71 k80 k81 -/
def P_lines_ahead : List CS := [
  .asg 2 (.lst []),
  .ife (.cmp .eq (.sub (.var 0) (.int 0)) (.str "parts"))
  [.asg 2 (.sub (.var 0) (.int 2))]
  [],
  .ife (.cmp .eq (.sub (.var 0) (.int 0)) (.str "apart"))
  [.asg 2 (.sub (.var 0) (.int 1))]
  [],
  .ife (.cmp .eq (.sub (.var 0) (.int 0)) (.str "turned"))
  [.asg 2 (.tup [.sub (.var 0) (.int 1)])]
  [],
  .ife (.no (.bf .all (.lc (.chn .le .lt (.int 0) (.var 3) (.var 1)) (.one 3) (.seq (.var 2)) [])))
  [.ret (.non)]
  [],
  .ret (.var 2)]
/-- product: 3 slots, 1 parameters; 16 laws: k58 k59 k60 k61 k64 k65 k66 k69 k70 k71 k80 k81 -/
def P_product : List CS := [
  .asg 1 (.int 1),
  .for_ (.one 2) (.seq (.var 0))
  [.asg 1 (.bop .mul (.var 1) (.var 2))],
  .ret (.var 1)]
/-- number_by: 10 slots, 4 parameters; 16 laws: k58 k59 k60 k61 k64 k65 k66 k69 k70 k71 k80 k81 -/
def P_number_by : List CS := [
  .asgT [4, 5] (.var 3),
  .asg 6 (.call "lines_ahead" [.var 5, .bf .len (.var 2)]),
  .ife (.orr (.cmp .is (.var 6) (.non)) (.no (.call "is_case" [.var 0, .var 4])))
  [.ret (.non)]
  [],
  .asg 7 (.lc (.sub (.sub (.var 1) (.var 8)) (.int 0)) (.one 8) (.seq (.var 6)) []),
  .asg 9 (.lc (.sub (.var 2) (.var 8)) (.one 8) (.seq (.var 6)) []),
  .ife (.and (.cmp .eq (.sub (.var 5) (.int 0)) (.str "none")) (.call "is_none" [.var 0, .var 4, .sub (.var 5) (.int 1)]))
  [.ret (.int 0)]
  [],
  .ife (.cmp .eq (.sub (.var 5) (.int 0)) (.str "all"))
  [.ret (.call "number_of_all" [.var 0, .var 4])]
  [],
  .ife (.and (.cmp .eq (.sub (.var 5) (.int 0)) (.str "parts")) (.call "are_parts" [.var 4, .sub (.var 5) (.int 1), .var 7]))
  [.ret (.bf .sum (.var 9))]
  [],
  .ife (.and (.cmp .eq (.sub (.var 5) (.int 0)) (.str "apart")) (.call "are_apart" [.var 0, .var 4, .var 7]))
  [.ret (.call "product" [.var 9])]
  [],
  .ife (.and (.cmp .eq (.sub (.var 5) (.int 0)) (.str "turned")) (.call "are_turned" [.var 0, .var 4, .sub (.var 7) (.int 0), .sub (.var 5) (.int 2)]))
  [.ret (.sub (.var 9) (.int 0))]
  [],
  .ret (.non)]
/-- _law_some_of: 5 slots, 3 parameters; 3 laws: k58 k59 k61 -/
def L_some_of : List CS := [
  .asgO 3 (.dis []),
  .for_ (.one 4) (.seq (.sub (.var 0) (.int 0)))
  [.ife (.cmp .inn (.var 4) (.var 1))
  [.setI (.rd 3) (.var 4) (.sub (.sub (.var 0) (.int 0)) (.var 4))]
  []],
  .frz 3 (.ret (.tup [.rd 3, .bf .tuple (.var 2)]))]
/-- _law_apart: 16 slots, 4 parameters; 2 laws: k59 k61 -/
def L_apart : List CS := [
  .asgT [4, 5] (.var 2),
  .asg 6 (.call "_law_groups" [.var 1, .var 2]),
  .asg 7 (.lc (.var 8) (.one 8) (.seq (.var 5)) [.no (.call "_law_idle" [.sub (.sub (.var 1) (.int 1)) (.var 8), .var 4])]),
  .asgO 9 (.lst []),
  .asg 10 (.bf .list (.var 4)),
  .for_ (.one 11) (.seq (.var 6))
  [.asg 12 (.lc (.var 8) (.one 8) (.seq (.var 7)) [.bf .any (.lc (.cmp .inn (.var 13) (.var 11)) (.one 13) (.seq (.call "_law_cells_of" [.sub (.sub (.var 1) (.int 1)) (.var 8)])) [])]), .asgO 14 (.bf .list (.var 11)), .for_ (.one 8) (.seq (.var 12))
  [.xpr (.mt .extend (.rd 14) [.call "_law_cells_of" [.sub (.sub (.var 1) (.int 1)) (.var 8)]])], .frz 14 (.xpr (.mt .append (.rd 9) [.call "_law_some_of" [.var 2, .rd 14, .var 12]])), .asg 10 (.lc (.var 13) (.one 13) (.seq (.var 10)) [.cmp .nin (.var 13) (.rd 14)])],
  .ife (.cmp .ne (.var 10) (.lst []))
  [.xpr (.mt .append (.rd 9) [.call "_law_some_of" [.var 2, .var 10, .lst []]])]
  [],
  .for_ (.one 8) (.seq (.var 7))
  [.ife (.bf .all (.lc (.cmp .eq (.bf .len (.sub (.var 4) (.var 13))) (.int 1)) (.one 13) (.seq (.call "_law_cells_of" [.sub (.sub (.var 1) (.int 1)) (.var 8)])) []))
  [.ret (.non)]
  []],
  .ife (.cmp .inn (.var 2) (.rd 9))
  [.ret (.non)]
  [],
  .frz 9 (.ret (.tup [.str "apart", .bf .tuple (.lc (.call "_law_line" [.var 0, .var 1, .var 15, .var 3]) (.one 15) (.seq (.rd 9)) [])]))]
/-- _law_line: 12 slots, 4 parameters; 2 laws: k59 k61 -/
def L_line : List CS := [
  .asgT [4, 5] (.var 2),
  .for_ (.one 6) (.rng (.bf .len (.var 3)))
  [.ife (.cmp .eq (.sub (.sub (.var 3) (.var 6)) (.int 0)) (.var 2))
  [.ret (.var 6)]
  []],
  .asg 7 (.non),
  .asg 8 (.lc (.var 9) (.one 9) (.seq (.var 4)) [.cmp .gt (.bf .len (.sub (.var 4) (.var 9))) (.int 1)]),
  .asgO 10 (.lst []),
  .for_ (.many [6, 11]) (.enu (.var 5))
  [.ife (.cmp .eq (.call "_law_number" [.var 1, .call "_law_some_of" [.var 2, .call "_law_cells_of" [.sub (.sub (.var 1) (.int 1)) (.var 11)], .lst [.var 11]]]) (.int 0))
  [.xpr (.mt .append (.rd 10) [.var 6])]
  []],
  .ife (.and (.cmp .ne (.rd 10) (.lst [])) (.orr (.cmp .eq (.var 8) (.lst [])) (.cmp .gt (.call "_law_draw" [.var 0, .int 4]) (.int 0))))
  [.asg 7 (.tup [.str "none", .tup [.tup [.sub (.rd 10) (.int 0), .tup []]]])]
  [.ife (.bf .all (.lc (.call "_law_idle" [.sub (.sub (.var 1) (.int 1)) (.var 11), .var 4]) (.one 11) (.seq (.var 5)) []))
  [.asg 7 (.tup [.str "all"])]
  [.ife (.cmp .eq (.call "_law_draw" [.var 0, .int 2]) (.int 0))
  [.asg 7 (.call "_law_apart" [.var 0, .var 1, .var 2, .var 3])]
  []]],
  .ife (.cmp .is (.var 7) (.non))
  [.asg 7 (.call "_law_parts" [.var 0, .var 1, .var 2, .var 3])]
  [],
  .xpr (.mt .append (.var 3) [.tup [.var 2, .var 7]]),
  .ret (.bop .sub (.bf .len (.var 3)) (.int 1))]
/-- _law_planted: 6 slots, 2 parameters; 4 laws: k58 k64 k80 k81 -/
def L_planted : List CS := [
  .asgO 2 (.dis []),
  .for_ (.many [3, 4]) (.seq (.sub (.var 1) (.int 0)))
  [.setI (.rd 2) (.var 3) (.sub (.var 4) (.call "_law_draw" [.var 0, .bf .len (.var 4)]))],
  .ife (.cmp .eq (.call "_law_draw" [.var 0, .int 3]) (.int 0))
  [.ret (.var 1)]
  [],
  .frz 2 (.ret (.tup [.sub (.var 1) (.int 0), .bf .tuple (.lc (.var 5) (.one 5) (.seq (.sub (.var 1) (.int 1))) [.call "_law_kept" [.var 5, .rd 2]])]))]
/-- smaller: 4 slots, 3 parameters; 12 laws: k64 k65 k66 k69 k70 k71 k80 k81 k82 k84 k86 k87 -/
def P_smaller : List CS := [
  .asgO 3 (.bf .dict (.sub (.var 0) (.int 0))),
  .setI (.rd 3) (.var 1) (.tup [.var 2]),
  .frz 3 (.ret (.tup [.rd 3, .sub (.var 0) (.int 1)]))]
/-- some_of: 7 slots, 4 parameters; 12 laws: k64 k65 k66 k69 k70 k71 k80 k81 k82 k84 k86 k87 -/
def P_some_of : List CS := [
  .asgO 4 (.dis []),
  .for_ (.many [5, 6]) (.seq (.sub (.var 0) (.int 0)))
  [.ife (.cmp .inn (.var 5) (.var 2))
  [.setI (.rd 4) (.var 5) (.sub (.sub (.var 1) (.int 0)) (.var 5))]
  []],
  .frz 4 (.ret (.tup [.rd 4, .bf .tuple (.var 3)]))]
/-- swap_of: 2 slots, 2 parameters; 12 laws: k64 k65 k66 k69 k70 k71 k80 k81 k82 k84 k86 k87 -/
def P_swap_of : List CS := [
  .ret (.tup [.dis [], .dis [.var 0, .var 1, .var 1, .var 0]])]
/-- counted: 4 slots, 1 parameters; 12 laws: k64 k65 k66 k69 k70 k71 k80 k81 k82 k84 k86 k87 -/
def P_counted : List CS := [
  .asg 1 (.new "Counter" [.var 0]),
  .asg 2 (.call "case_of" [.var 0]),
  .asg 3 (.call "seek" [.call "hall_of" [.var 0, .var 2]]),
  .ife (.cmp .eq (.sub (.var 3) (.int 0)) (.str "none"))
  [.xpr (.meth "write" (.var 1) [.var 2, .tup [.str "none", .sub (.var 3) (.int 1)]])]
  [.xpr (.meth "line_for" (.var 1) [.var 2])],
  .ret (.tup [.sub (.attr (.var 1) "told") (.neg (.int 1)), .bf .tuple (.attr (.var 1) "lines")])]
/-- Counter.__init__: 2 slots, 2 parameters; 12 laws: k64 k65 k66 k69 k70 k71 k80 k81 k82 k84 k86 k87 -/
def M_Counter___init__ : List CS := [
  .setA (.var 0) "hall" (.var 1),
  .setA (.var 0) "lines" (.al (.lst [])),
  .setA (.var 0) "told" (.al (.lst [])),
  .setA (.var 0) "known" (.al (.dis []))]
/-- Counter.write: 4 slots, 3 parameters; 12 laws: k64 k65 k66 k69 k70 k71 k80 k81 k82 k84 k86 k87 -/
def M_Counter_write : List CS := [
  .asg 3 (.tup [.var 1, .var 2]),
  .xpr (.mt .append (.attr (.var 0) "told") [.call "number_by" [.attr (.var 0) "hall", .attr (.var 0) "lines", .attr (.var 0) "told", .var 3]]),
  .xpr (.mt .append (.attr (.var 0) "lines") [.var 3]),
  .ret (.bop .sub (.bf .len (.attr (.var 0) "lines")) (.int 1))]
/-- Counter.dead_wish: 4 slots, 2 parameters; 12 laws: k64 k65 k66 k69 k70 k71 k80 k81 k82 k84 k86 k87 -/
def M_Counter_dead_wish : List CS := [
  .for_ (.many [2, 3]) (.enu (.sub (.var 1) (.int 1)))
  [.ife (.no (.call "may_be_kept" [.sub (.sub (.attr (.var 0) "hall") (.int 1)) (.var 3), .sub (.var 1) (.int 0)]))
  [.ret (.var 2)]
  []],
  .ret (.non)]
/-- Counter.shown: 6 slots, 2 parameters; 12 laws: k64 k65 k66 k69 k70 k71 k80 k81 k82 k84 k86 k87 -/
def M_Counter_shown : List CS := [
  .asg 2 (.meth "dead_wish" (.var 0) [.var 1]),
  .ife (.cmp .isn (.var 2) (.non))
  [.ret (.meth "write" (.var 0) [.var 1, .tup [.str "none", .tup [.tup [.var 2, .tup []]]]])]
  [],
  .asg 3 (.lc (.var 4) (.one 4) (.seq (.sub (.var 1) (.int 1))) [.no (.call "is_idle" [.sub (.sub (.attr (.var 0) "hall") (.int 1)) (.var 4), .sub (.var 1) (.int 0)])]),
  .ife (.cmp .eq (.bf .len (.var 3)) (.int 0))
  [.ret (.meth "write" (.var 0) [.var 1, .tup [.str "all"]])]
  [],
  .asg 5 (.call "asunder" [.attr (.var 0) "hall", .var 1]),
  .ife (.orr (.cmp .gt (.bf .len (.var 5)) (.int 1)) (.orr (.cmp .lt (.bf .len (.var 3)) (.bf .len (.sub (.var 1) (.int 1)))) (.cmp .lt (.bf .len (.sub (.var 5) (.int 0))) (.bop .sub (.bf .len (.sub (.var 1) (.int 0))) (.meth "many_held" (.var 0) [.var 1, .var 3])))))
  [.ret (.meth "apart" (.var 0) [.var 1, .var 5, .var 3])]
  [],
  .ret (.meth "parted" (.var 0) [.var 1, .sub (.var 5) (.int 0)])]
/-- Counter.many_held: 6 slots, 3 parameters; 12 laws: k64 k65 k66 k69 k70 k71 k80 k81 k82 k84 k86 k87 -/
def M_Counter_many_held : List CS := [
  .asgO 3 (.dis []),
  .for_ (.one 4) (.seq (.var 2))
  [.for_ (.one 5) (.seq (.call "cells_of" [.sub (.sub (.attr (.var 0) "hall") (.int 1)) (.var 4)]))
  [.ife (.cmp .eq (.bf .len (.sub (.sub (.var 1) (.int 0)) (.var 5))) (.int 1))
  [.setI (.rd 3) (.var 5) (.bl true)]
  []]],
  .ret (.bf .len (.rd 3))]
/-- Counter.apart: 11 slots, 4 parameters; 12 laws: k64 k65 k66 k69 k70 k71 k80 k81 k82 k84 k86 k87 -/
def M_Counter_apart : List CS := [
  .asgO 4 (.lst []),
  .asg 5 (.bf .list (.sub (.var 1) (.int 0))),
  .for_ (.one 6) (.seq (.var 2))
  [.asg 7 (.lc (.var 8) (.one 8) (.seq (.var 3)) [.cmp .inn (.sub (.call "wide_cells" [.sub (.sub (.attr (.var 0) "hall") (.int 1)) (.var 8), .sub (.var 1) (.int 0)]) (.int 0)) (.var 6)]), .asgO 9 (.bf .list (.var 6)), .for_ (.one 8) (.seq (.var 7))
  [.xpr (.mt .extend (.rd 9) [.call "cells_of" [.sub (.sub (.attr (.var 0) "hall") (.int 1)) (.var 8)]])], .frz 9 (.xpr (.mt .append (.rd 4) [.meth "line_for" (.var 0) [.call "some_of" [.attr (.var 0) "hall", .var 1, .rd 9, .var 7]]])), .asg 5 (.lc (.var 10) (.one 10) (.seq (.var 5)) [.cmp .nin (.var 10) (.rd 9)])],
  .ife (.cmp .gt (.bf .len (.var 5)) (.int 0))
  [.xpr (.mt .append (.rd 4) [.meth "line_for" (.var 0) [.call "some_of" [.attr (.var 0) "hall", .var 1, .var 5, .lst []]]])]
  [],
  .ret (.meth "write" (.var 0) [.var 1, .tup [.str "apart", .bf .tuple (.rd 4)]])]
/-- Counter.parted: 7 slots, 3 parameters; 12 laws: k64 k65 k66 k69 k70 k71 k80 k81 k82 k84 k86 k87 -/
def M_Counter_parted : List CS := [
  .asg 3 (.sub (.var 2) (.int 0)),
  .for_ (.one 4) (.seq (.var 2))
  [.ife (.cmp .lt (.bf .len (.sub (.sub (.var 1) (.int 0)) (.var 4))) (.bf .len (.sub (.sub (.var 1) (.int 0)) (.var 3))))
  [.asg 3 (.var 4)]
  []],
  .asgO 5 (.lst []),
  .for_ (.one 6) (.seq (.sub (.sub (.var 1) (.int 0)) (.var 3)))
  [.frz 5 (.xpr (.mt .append (.rd 5) [.meth "turned" (.var 0) [.call "smaller" [.var 1, .var 3, .var 6], .var 6, .rd 5]]))],
  .ret (.meth "write" (.var 0) [.var 1, .tup [.str "parts", .var 3, .bf .tuple (.rd 5)]])]
/-- Counter.turned: 9 slots, 4 parameters; 12 laws: k64 k65 k66 k69 k70 k71 k80 k81 k82 k84 k86 k87 -/
def M_Counter_turned : List CS := [
  .for_ (.one 4) (.seq (.var 3))
  [.asg 5 (.sub (.sub (.attr (.var 0) "lines") (.var 4)) (.int 0)), .for_ (.many [6, 7]) (.items (.sub (.var 5) (.int 0)))
  [.ife (.and (.cmp .eq (.bf .len (.var 7)) (.int 1)) (.and (.cmp .ne (.var 7) (.sub (.sub (.var 1) (.int 0)) (.var 6))) (.cmp .ne (.sub (.var 7) (.int 0)) (.var 2))))
  [.asg 8 (.call "swap_of" [.sub (.var 7) (.int 0), .var 2]), .ife (.call "are_turned" [.attr (.var 0) "hall", .var 1, .var 5, .var 8])
  [.ret (.meth "write" (.var 0) [.var 1, .tup [.str "turned", .var 4, .var 8]])]
  []]
  []]],
  .ret (.meth "line_for" (.var 0) [.var 1])]
/-- _law_renamed: 4 slots, 2 parameters; 2 laws: k65 k85 -/
def L_renamed : List CS := [
  .ife (.cmp .eq (.sub (.var 0) (.int 0)) (.str "same"))
  [.ret (.tup [.str "same", .sub (.var 1) (.sub (.var 0) (.int 1)), .sub (.var 0) (.int 2), .call "_law_renamed" [.sub (.var 0) (.int 3), .var 1]])]
  [],
  .ife (.cmp .eq (.sub (.var 0) (.int 0)) (.str "sum"))
  [.ret (.tup [.str "sum", .bf .tuple (.lc (.tup [.var 2, .sub (.var 1) (.var 3)]) (.many [2, 3]) (.seq (.sub (.var 0) (.int 1))) []), .sub (.var 0) (.int 2), .sub (.var 0) (.int 3)])]
  [],
  .ife (.cmp .eq (.sub (.var 0) (.int 0)) (.str "many"))
  [.ret (.tup [.str "many", .sub (.var 0) (.int 1), .bf .tuple (.lc (.sub (.var 1) (.var 3)) (.one 3) (.seq (.sub (.var 0) (.int 2))) []), .sub (.var 0) (.int 3), .sub (.var 0) (.int 4)])]
  [],
  .ret (.bop .add (.tup [.sub (.var 0) (.int 0), .bf .tuple (.lc (.sub (.var 1) (.var 3)) (.one 3) (.seq (.sub (.var 0) (.int 1))) [])]) (.slc (.var 0) (some (.int 2)) none))]
/-- _law_chopped: 3 slots, 1 parameters; 3 laws: k69 k70 k71 -/
def L_chopped : List CS := [
  .asg 1 (.lst []),
  .for_ (.one 2) (.rng (.bf .len (.var 0)))
  [.asg 1 (.bop .add (.bop .add (.var 1) (.bop .mul (.lst [.str ";"]) (.bf .int (.cmp .gt (.var 2) (.int 0))))) (.call "_law_words" [.sub (.var 0) (.var 2)]))],
  .ret (.var 1)]
end Sk

/-! SkE: plain data compared. -/
namespace Sk
open PySem PySem.Spec
open L2 (ixN atI)
mutual
/-- plain data, no deeper than n: what == tells apart just as it is written -/
def pl : Nat → D → Bool
  | _, .non => true
  | _, .int _ => true
  | _, .str x => PyData.strOk x
  | n + 1, .tup ds => pls n ds
  | n + 1, .lst ds => pls n ds
  | _, _ => false
def pls : Nat → List D → Bool
  | _, [] => true
  | n, d :: ds => pl n d && pls n ds
end
theorem pls_mem {n : Nat} {ds : List D} : pls n ds = true ↔ ∀ d ∈ ds, pl n d = true := by
  induction ds with
  | nil => simp [pls]
  | cons d r ih => simp [pls, ih]
mutual
theorem pl_py : ∀ {n : Nat} {d : D}, pl n d = true → ∃ p, toPy d = some p ∧ p.canLay0 = true ∧ p.depth ≤ n
  | n, .non, _ => ⟨.none, rfl, rfl, Nat.zero_le _⟩
  | n, .int i, _ => ⟨.int i, rfl, rfl, Nat.zero_le _⟩
  | n, .str x, h => ⟨.str x, rfl, (by cases n <;> exact h), Nat.zero_le _⟩
  | n + 1, .tup ds, h => by
    obtain ⟨ps, e, h1, h2⟩ := pls_py (n := n) (ds := ds) h
    refine ⟨.tuple ps, ?_, h1, Nat.succ_le_succ h2⟩
    show (toPys ds).map PyData.tuple = _
    rw [e]
    rfl
  | n + 1, .lst ds, h => by
    obtain ⟨ps, e, h1, h2⟩ := pls_py (n := n) (ds := ds) h
    refine ⟨.list ps, ?_, h1, Nat.succ_le_succ h2⟩
    show (toPys ds).map PyData.list = _
    rw [e]
    rfl
  | 0, .tup _, h => by cases h
  | 0, .lst _, h => by cases h
  | n, .bl _, h => by cases n <;> cases h
  | n, .dct _, h => by cases n <;> cases h
  | n, .ref _, h => by cases n <;> cases h
  | n, .fn _, h => by cases n <;> cases h
theorem pls_py : ∀ {n : Nat} {ds : List D}, pls n ds = true → ∃ ps, toPys ds = some ps ∧ PyData.canLayAll0 ps = true ∧ PyData.depthAll ps ≤ n
  | n, [], _ => ⟨[], rfl, rfl, Nat.zero_le _⟩
  | n, d :: ds, h => by
    have h' : (pl n d && pls n ds) = true := by cases n <;> exact h
    rw [Bool.and_eq_true] at h'
    obtain ⟨p, e, h1, h2⟩ := pl_py h'.1
    obtain ⟨ps, e', h1', h2'⟩ := pls_py h'.2
    refine ⟨p :: ps, ?_, ?_, ?_⟩
    · show (match toPy d, toPys ds with | some x, some xs => some (x :: xs) | _, _ => none) = _
      rw [e, e']
    · show (p.canLay0 && PyData.canLayAll0 ps) = true
      rw [h1, h1']
      rfl
    · show max p.depth (PyData.depthAll ps) ≤ n
      omega
end
theorem shaped_pl {n : Nat} {d : D} (hn : n ≤ 64) (h : pl n d = true) : ∃ p, toPy d = some p ∧ SeqAt.shaped p = true := by
  obtain ⟨p, e, h1, h2⟩ := pl_py h
  refine ⟨p, e, ?_⟩
  show (p.canLay0 && decide (p.depth ≤ 64)) = true
  rw [h1, decide_eq_true (by omega)]
  rfl
mutual
theorem py_eqv : ∀ {n m : Nat} {a b : D} {p q : PyData}, pl n a = true → pl m b = true → toPy a = some p → toPy b = some q → (PyData.eqv p q = true ↔ a = b)
  | n, m, .non, b, p, q, ha, hb, e1, e2 => by
    cases e1
    cases b <;> first
      | (cases e2; simp [PyData.eqv]; done)
      | (cases m <;> cases hb; done)
      | (simp only [toPy, Option.map_eq_some_iff] at e2; obtain ⟨_, _, rfl⟩ := e2; simp [PyData.eqv])
  | n, m, .int i, b, p, q, ha, hb, e1, e2 => by
    cases e1
    cases b <;> first
      | (cases m <;> cases hb; done)
      | (cases e2; simp [PyData.eqv]; done)
      | (simp only [toPy, Option.map_eq_some_iff] at e2; obtain ⟨_, _, rfl⟩ := e2; simp [PyData.eqv])
  | n, m, .str x, b, p, q, ha, hb, e1, e2 => by
    cases e1
    cases b <;> first
      | (cases m <;> cases hb; done)
      | (cases e2; simp [PyData.eqv]; done)
      | (simp only [toPy, Option.map_eq_some_iff] at e2; obtain ⟨_, _, rfl⟩ := e2; simp [PyData.eqv])
  | n + 1, m, .tup ds, b, p, q, ha, hb, e1, e2 => by
    simp only [toPy, Option.map_eq_some_iff] at e1
    obtain ⟨ps, e1, rfl⟩ := e1
    cases b <;> first
      | (cases m <;> cases hb; done)
      | (cases e2; simp [PyData.eqv]; done)
      | skip
    case tup es =>
      simp only [toPy, Option.map_eq_some_iff] at e2
      obtain ⟨qs, e2, rfl⟩ := e2
      cases m with
      | zero => cases hb
      | succ m =>
        have := pys_eqv (n := n) (m := m) ha hb e1 e2
        simp [PyData.eqv, this]
    case lst es =>
      simp only [toPy, Option.map_eq_some_iff] at e2
      obtain ⟨qs, e2, rfl⟩ := e2
      simp [PyData.eqv]
  | n + 1, m, .lst ds, b, p, q, ha, hb, e1, e2 => by
    simp only [toPy, Option.map_eq_some_iff] at e1
    obtain ⟨ps, e1, rfl⟩ := e1
    cases b <;> first
      | (cases m <;> cases hb; done)
      | (cases e2; simp [PyData.eqv]; done)
      | skip
    case lst es =>
      simp only [toPy, Option.map_eq_some_iff] at e2
      obtain ⟨qs, e2, rfl⟩ := e2
      cases m with
      | zero => cases hb
      | succ m =>
        have := pys_eqv (n := n) (m := m) ha hb e1 e2
        simp [PyData.eqv, this]
    case tup es =>
      simp only [toPy, Option.map_eq_some_iff] at e2
      obtain ⟨qs, e2, rfl⟩ := e2
      simp [PyData.eqv]
  | 0, _, .tup _, _, _, _, h, _, _, _ => by cases h
  | 0, _, .lst _, _, _, _, h, _, _, _ => by cases h
  | n, _, .bl _, _, _, _, h, _, _, _ => by cases n <;> cases h
  | n, _, .dct _, _, _, _, h, _, _, _ => by cases n <;> cases h
  | n, _, .ref _, _, _, _, h, _, _, _ => by cases n <;> cases h
  | n, _, .fn _, _, _, _, h, _, _, _ => by cases n <;> cases h
theorem pys_eqv : ∀ {n m : Nat} {a b : List D} {p q : List PyData}, pls n a = true → pls m b = true → toPys a = some p → toPys b = some q → (PyData.eqvAll p q = true ↔ a = b)
  | n, m, [], [], p, q, _, _, e1, e2 => by cases e1; cases e2; simp [PyData.eqvAll]
  | n, m, [], b :: bs, p, q, _, hb, e1, e2 => by
    cases e1
    obtain ⟨qs, e, _⟩ := pls_py hb
    simp only [toPys] at e2 e
    cases h1 : toPy b <;> cases h2 : toPys bs <;> rw [h1, h2] at e2 <;> cases e2
    simp [PyData.eqvAll]
  | n, m, a :: as, [], p, q, _, hb, e1, e2 => by
    cases e2
    simp only [toPys] at e1
    cases h1 : toPy a <;> cases h2 : toPys as <;> rw [h1, h2] at e1 <;> cases e1
    simp [PyData.eqvAll]
  | n, m, a :: as, b :: bs, p, q, ha, hb, e1, e2 => by
    have ha' : (pl n a && pls n as) = true := by cases n <;> exact ha
    have hb' : (pl m b && pls m bs) = true := by cases m <;> exact hb
    rw [Bool.and_eq_true] at ha' hb'
    simp only [toPys] at e1 e2
    cases h1 : toPy a with
    | none => rw [h1] at e1; cases e1
    | some x =>
    cases h2 : toPys as with
    | none => rw [h1, h2] at e1; cases e1
    | some xs =>
    cases h3 : toPy b with
    | none => rw [h3] at e2; cases e2
    | some y =>
    cases h4 : toPys bs with
    | none => rw [h3, h4] at e2; cases e2
    | some ys =>
    rw [h1, h2] at e1
    rw [h3, h4] at e2
    cases e1
    cases e2
    have i1 := py_eqv ha'.1 hb'.1 h1 h3
    have i2 := pys_eqv ha'.2 hb'.2 h2 h4
    simp [PyData.eqvAll, i1, i2]
end
theorem bool_iff {b : Bool} {P : Prop} [Decidable P] (h : b = true ↔ P) : b = decide P := by
  by_cases p : P
  · rw [decide_eq_true p, h.mpr p]
  · rw [decide_eq_false p]
    cases b with
    | false => rfl
    | true => exact absurd (h.mp rfl) p
theorem deq_pl {n m : Nat} {a b : D} {P : Prop} [Decidable P] (hn : n ≤ 64) (hm : m ≤ 64) (ha : pl n a = true) (hb : pl m b = true) (h : a = b ↔ P) : deq a b = some (decide P) := by
  obtain ⟨p, e1, s1⟩ := shaped_pl hn ha
  obtain ⟨q, e2, s2⟩ := shaped_pl hm hb
  have ev := (py_eqv ha hb e1 e2).trans h
  have rest : (match toPy a, toPy b with
    | some x, some y => if SeqAt.shaped x = true ∧ SeqAt.shaped y = true then some (PyData.eqv x y) else none
    | _, _ => none) = some (decide P) := by
    rw [e1, e2]
    dsimp only
    rw [if_pos ⟨s1, s2⟩, bool_iff ev]
  unfold deq
  split
  · rename_i i j
    congr 1
    exact decide_eq_decide.mpr ((by simp : (i = j) ↔ (D.int i = D.int j)).trans h)
  · rename_i i j
    congr 1
    exact decide_eq_decide.mpr ((by simp : (i = j) ↔ (D.str i = D.str j)).trans h)
  · cases n <;> cases ha
  · rw [decide_eq_true (h.mp rfl)]
  · cases n <;> cases ha
  · exact rest
theorem feq_pl {n m : Nat} {a b : D} (ha : pl n a = true) (hb : pl m b = true) (fa : flatD a = true) (fb : flatD b = true) : feq a b = true ↔ a = b := by
  cases a <;> first
    | (cases fa; done)
    | (cases n <;> cases ha; done)
    | (cases b <;> first
        | (cases fb; done)
        | (cases m <;> cases hb; done)
        | simp [feq])
theorem pyIn_pl {n m : Nat} {x : D} {ds : List D} {P : Prop} [Decidable P] (hn : n ≤ 64) (hm : m ≤ 63) (hx : pl n x = true) (hd : ∀ d ∈ ds, pl m d = true) (h : x ∈ ds ↔ P) : pyIn x ds = some (decide P) := by
  unfold pyIn memD
  by_cases hf : (flatD x && ds.all flatD) = true
  · rw [if_pos hf]
    dsimp only
    rw [Bool.and_eq_true, List.all_eq_true] at hf
    refine congrArg some (bool_iff (Iff.trans ?_ h))
    rw [List.any_eq_true]
    constructor
    · rintro ⟨y, hy, e⟩
      rw [← (feq_pl (hd y hy) hx (hf.2 y hy) hf.1).mp e]
      exact hy
    · exact fun hy => ⟨x, hy, (feq_pl hx hx hf.1 hf.1).mpr rfl⟩
  · rw [if_neg hf]
    dsimp only
    obtain ⟨p, e1, s1⟩ := shaped_pl hn hx
    obtain ⟨ps, e2, c2, d2⟩ := pls_py (n := m) (ds := ds) (pls_mem.mpr hd)
    rw [e1, e2]
    dsimp only
    have s2 : SeqAt.shaped (.list ps) = true := by
      show (PyData.canLayAll0 ps && decide (PyData.depthAll ps + 1 ≤ 64)) = true
      rw [c2, decide_eq_true (by omega)]
      rfl
    rw [if_pos ⟨s1, s2⟩]
    refine congrArg some (bool_iff (Iff.trans ?_ h))
    clear hf s2 c2 d2 h
    induction ds generalizing ps with
    | nil => cases e2; simp
    | cons y r ih =>
      simp only [toPys] at e2
      cases h3 : toPy y with
      | none => rw [h3] at e2; cases e2
      | some z =>
      cases h4 : toPys r with
      | none => rw [h3, h4] at e2; cases e2
      | some zs =>
      rw [h3, h4] at e2
      cases e2
      have i1 := py_eqv (hd y List.mem_cons_self) hx h3 e1
      have i2 := ih (fun d hm => hd d (List.mem_cons_of_mem _ hm)) zs h4
      rw [List.any_cons, Bool.or_eq_true, i1, i2, List.mem_cons]
      exact ⟨fun z => z.imp Eq.symm id, fun z => z.imp Eq.symm id⟩
theorem shD_pl {n : Nat} {d : D} (hn : n ≤ 64) (h : pl n d = true) : shD d = true := by
  obtain ⟨p, e, s⟩ := shaped_pl hn h
  unfold shD
  rw [e]
  exact s
theorem eqPy_pl {n m : Nat} {a b : D} (ha : pl n a = true) (hb : pl m b = true) : eqPy a b = true ↔ a = b := by
  obtain ⟨p, e, _⟩ := pl_py ha
  obtain ⟨q, e', _⟩ := pl_py hb
  unfold eqPy
  rw [e, e']
  exact py_eqv ha hb e e'
/-! ### typed -/
theorem map_inj {α β : Type} {f : α → β} (inj : ∀ x y, f x = f y → x = y) : ∀ {xs ys : List α}, xs.map f = ys.map f ↔ xs = ys := by
  intro xs ys
  refine ⟨fun h => ?_, fun h => by rw [h]⟩
  induction xs generalizing ys with
  | nil =>
    cases ys with
    | nil => rfl
    | cons _ _ => cases h
  | cons x r ih =>
    cases ys with
    | nil => cases h
    | cons y s =>
      rw [List.map_cons, List.map_cons] at h
      injection h with h1 h2
      rw [inj _ _ h1, ih h2]
theorem int_inj (x y : Int) (h : D.int x = D.int y) : x = y := by injection h
theorem strD_inj (x y : Nm) (h : strD x = strD y) : x = y := st_inj (by injection h)
theorem tupI_inj (x y : List Int) (h : tupI x = tupI y) : x = y := (map_inj int_inj).mp (by injection h)
theorem tupS_inj (x y : List Nm) (h : tupS x = tupS y) : x = y := (map_inj strD_inj).mp (by injection h)
theorem pls_ints {n : Nat} {xs : List Int} : pls n (xs.map .int) = true := pls_mem.mpr fun d hd => by
  obtain ⟨x, _, rfl⟩ := List.mem_map.mp hd
  cases n <;> rfl
theorem pl_tupI {n : Nat} {xs : List Int} : pl (n + 1) (tupI xs) = true := pls_ints
theorem eq_ints {xs ys : List Int} : deq (.lst (xs.map .int)) (.lst (ys.map .int)) = some (decide (xs = ys)) :=
  deq_pl (n := 1) (m := 1) (by decide) (by decide) pls_ints pls_ints ⟨fun h => (map_inj int_inj).mp (by injection h), fun h => by rw [h]⟩
theorem eq_tupI {xs ys : List Int} : cmpD .eq (tupI xs) (tupI ys) = some (decide (xs = ys)) :=
  deq_pl (n := 1) (m := 1) (by decide) (by decide) pl_tupI pl_tupI ⟨tupI_inj _ _, fun h => by rw [h]⟩
theorem ne_tupI {xs ys : List Int} : cmpD .ne (tupI xs) (tupI ys) = some (!decide (xs = ys)) := by
  show (deq _ _).map _ = _
  rw [show deq (tupI xs) (tupI ys) = some (decide (xs = ys)) from eq_tupI]
  rfl
theorem pyIn_tupI {x : List Int} {xs : List (List Int)} : pyIn (tupI x) (xs.map tupI) = some (decide (x ∈ xs)) :=
  pyIn_pl (n := 1) (m := 1) (by decide) (by decide) pl_tupI (fun d hd => by obtain ⟨y, _, rfl⟩ := List.mem_map.mp hd; exact pl_tupI)
    ⟨fun h => by obtain ⟨y, hy, e⟩ := List.mem_map.mp h; rw [← tupI_inj _ _ e]; exact hy, fun h => List.mem_map_of_mem h⟩
theorem in_tupI {x : List Int} {xs : List (List Int)} : cmpD .inn (tupI x) (.lst (xs.map tupI)) = some (decide (x ∈ xs)) := pyIn_tupI
theorem nin_tupI {x : List Int} {xs : List (List Int)} : cmpD .nin (tupI x) (.lst (xs.map tupI)) = some (!decide (x ∈ xs)) := by
  show (inD (tupI x) (.lst (xs.map tupI))).map (!·) = _
  rw [show inD (tupI x) (.lst (xs.map tupI)) = some (decide (x ∈ xs)) from pyIn_tupI]
  rfl
theorem in_tupIT {x : List Int} {xs : List (List Int)} : cmpD .inn (tupI x) (.tup (xs.map tupI)) = some (decide (x ∈ xs)) := pyIn_tupI
theorem pyIn_int {x : Int} {xs : List Int} : pyIn (.int x) (xs.map .int) = some (decide (x ∈ xs)) :=
  pyIn_pl (n := 1) (m := 1) (by decide) (by decide) rfl (fun d hd => by obtain ⟨y, _, rfl⟩ := List.mem_map.mp hd; rfl)
    ⟨fun h => by obtain ⟨y, hy, e⟩ := List.mem_map.mp h; rw [← int_inj _ _ e]; exact hy, fun h => List.mem_map_of_mem h⟩
theorem in_int {x : Int} {xs : List Int} : cmpD .inn (.int x) (tupI xs) = some (decide (x ∈ xs)) := pyIn_int
theorem nin_int {x : Int} {xs : List Int} : cmpD .nin (.int x) (tupI xs) = some (!decide (x ∈ xs)) := by
  show (pyIn _ _).map _ = _
  rw [pyIn_int]
  rfl
theorem in_intL {x : Int} {xs : List Int} : cmpD .inn (.int x) (.lst (xs.map .int)) = some (decide (x ∈ xs)) := pyIn_int
theorem eq_intsL {xs ys : List Int} : cmpD .eq (.lst (xs.map .int)) (.lst (ys.map .int)) = some (decide (xs = ys)) := eq_ints
theorem eq_map {α β : Type} [DecidableEq α] [DecidableEq β] [KeyEnc α] {f : β → D} {ps qs : List (α × β)} (inj : ∀ x y, f x = f y → x = y) (hp : ∀ p ∈ ps, pl 60 (f p.2) = true) (hq : ∀ p ∈ qs, pl 60 (f p.2) = true) :
    deq (mapD f ps) (mapD f qs) = some (decide (ps.length = qs.length ∧ ∀ p ∈ ps, aget qs p.1 = some p.2)) := by
  show dctEq (pairsD f ps) (pairsD f qs) = _
  unfold dctEq
  have all : ∀ rs : List (α × β), (∀ p ∈ rs, pl 60 (f p.2) = true) → ((pairsD f rs).all fun p => shD p.2) = true := fun rs h => by
    rw [List.all_eq_true]
    intro p hp
    unfold pairsD at hp
    obtain ⟨r, hr, rfl⟩ := List.mem_map.mp hp
    exact shD_pl (by decide) (h r hr)
  rw [all ps hp, all qs hq]
  refine congrArg some (bool_iff ?_)
  rw [Bool.and_eq_true, decide_eq_true_eq, List.all_eq_true]
  have hl : ∀ rs : List (α × β), (pairsD f rs).length = rs.length := fun _ => List.length_map ..
  rw [hl, hl]
  refine and_congr_right fun _ => ?_
  unfold pairsD
  constructor
  · intro h p hpm
    have := h _ (List.mem_map_of_mem (f := fun p => (KeyEnc.enc p.1, f p.2)) hpm)
    dsimp only at this
    rw [show dget (qs.map fun p => (KeyEnc.enc p.1, f p.2)) (KeyEnc.enc p.1) = (aget qs p.1).map f from dget_map] at this
    cases e : aget qs p.1 with
    | none => rw [e] at this; cases this
    | some v =>
      rw [e] at this
      have hv := hq _ (aget_mem e)
      rw [inj _ _ ((eqPy_pl (hp p hpm) hv).mp this)]
  · intro h p hpm
    obtain ⟨r, hr, rfl⟩ := List.mem_map.mp hpm
    dsimp only
    rw [show dget (qs.map fun p => (KeyEnc.enc p.1, f p.2)) (KeyEnc.enc r.1) = (aget qs r.1).map f from dget_map, h r hr]
    exact (eqPy_pl (hp r hr) (hp r hr)).mpr rfl
theorem eq_map_self {α β : Type} [DecidableEq α] [DecidableEq β] [KeyEnc α] {f : β → D} {ps : List (α × β)} (inj : ∀ x y, f x = f y → x = y) (hp : ∀ p ∈ ps, pl 60 (f p.2) = true) (hn : (akeys ps).Nodup) : deq (mapD f ps) (mapD f ps) = some true := by
  rw [eq_map inj hp hp, decide_eq_true ⟨rfl, fun p hp => aget_of hn hp⟩]
theorem pl_tupI60 {xs : List Int} : pl 60 (tupI xs) = true := pl_tupI (n := 59)
theorem eq_rooms {ps : Rooms} (hn : (akeys ps).Nodup) : cmpD .eq (roomsD ps) (roomsD ps) = some true := eq_map_self tupI_inj (fun _ _ => pl_tupI60) hn
theorem ne_rooms {ps : Rooms} (hn : (akeys ps).Nodup) : cmpD .ne (roomsD ps) (roomsD ps) = some false := by
  show (deq (roomsD ps) (roomsD ps)).map (!·) = _
  rw [show deq (roomsD ps) (roomsD ps) = some true from eq_rooms hn]
  rfl
/-- a filling -/
abbrev Fil := List (Nm × Int)
abbrev filD (f : Fil) : D := mapD D.int f
theorem eq_fil {f : Fil} (hn : (akeys f).Nodup) : cmpD .eq (filD f) (filD f) = some true := eq_map_self int_inj (fun _ _ => rfl) hn
theorem ne_fil {f : Fil} (hn : (akeys f).Nodup) : cmpD .ne (filD f) (filD f) = some false := by
  show (deq (filD f) (filD f)).map (!·) = _
  rw [show deq (filD f) (filD f) = some true from eq_fil hn]
  rfl
/-! truths -/
theorem in_bls {b : Bool} {xs : List Bool} : cmpD .inn (.bl b) (.lst (xs.map .bl)) = some (decide (b ∈ xs)) := by
  show pyIn (.bl b) (xs.map .bl) = _
  unfold pyIn memD
  have fl : (flatD (.bl b) && (xs.map D.bl).all flatD) = true := by
    rw [Bool.and_eq_true, List.all_eq_true]
    exact ⟨rfl, fun d hd => by obtain ⟨x, _, rfl⟩ := List.mem_map.mp hd; rfl⟩
  rw [if_pos fl]
  refine congrArg some (bool_iff ?_)
  rw [List.any_eq_true]
  constructor
  · rintro ⟨d, hd, e⟩
    obtain ⟨x, hx, rfl⟩ := List.mem_map.mp hd
    have : x = b := by simpa [feq] using e
    exact this ▸ hx
  · exact fun h => ⟨_, List.mem_map_of_mem h, by simp [feq]⟩
theorem py_bls {xs : List Bool} : toPys (xs.map .bl) = some (xs.map PyData.bool) ∧ PyData.canLayAll0 (xs.map PyData.bool) = true ∧ PyData.depthAll (xs.map PyData.bool) = 0 := by
  induction xs with
  | nil => exact ⟨rfl, rfl, rfl⟩
  | cons c r ih =>
    obtain ⟨i0, i1, i2⟩ := ih
    refine ⟨?_, ?_, ?_⟩
    · show (match toPy (.bl c), toPys (r.map .bl) with | some x, some xs => some (x :: xs) | _, _ => none) = _
      rw [i0]
      rfl
    · show (true && PyData.canLayAll0 _) = true
      rw [i1]
      rfl
    · show max 0 (PyData.depthAll _) = 0
      rw [i2]
      rfl
theorem eqvAll_bls : ∀ {xs ys : List Bool}, PyData.eqvAll (xs.map PyData.bool) (ys.map PyData.bool) = decide (xs = ys)
  | [], [] => rfl
  | [], _ :: _ => rfl
  | _ :: _, [] => rfl
  | x :: xs, y :: ys => by
    show ((x == y) && PyData.eqvAll (xs.map PyData.bool) (ys.map PyData.bool)) = _
    rw [eqvAll_bls]
    by_cases h : x = y
    · subst h; simp
    · simp [h]
theorem eq_bls {xs ys : List Bool} : cmpD .eq (.lst (xs.map .bl)) (.lst (ys.map .bl)) = some (decide (xs = ys)) := by
  have tp : ∀ zs : List Bool, toPy (.lst (zs.map .bl)) = some (.list (zs.map PyData.bool)) := fun zs => by
    show (toPys (zs.map .bl)).map PyData.list = _
    rw [py_bls.1]
    rfl
  have sh : ∀ zs : List Bool, SeqAt.shaped (.list (zs.map PyData.bool)) = true := fun zs => by
    show (PyData.canLayAll0 _ && decide (PyData.depthAll _ + 1 ≤ 64)) = true
    rw [py_bls.2.1, py_bls.2.2]
    rfl
  show deq (.lst (xs.map .bl)) (.lst (ys.map .bl)) = _
  unfold deq
  dsimp only
  rw [tp, tp]
  dsimp only
  rw [if_pos ⟨sh _, sh _⟩]
  show some (PyData.eqvAll _ _) = _
  rw [eqvAll_bls]
end Sk

namespace Sk
open PySem PySem.Spec
local macro_rules
  | `(tactic| simp_arith) => `(tactic| simp only [wss_cons, wss_nil, seqQ_nil, seqQ_nx, seqQ_rt, seqQ_bk, seqQ_ct, turnQ_nx, turnQ_ct, turnQ_bk, turnQ_rt, retQ_rt, retQ_nx, retO_fz, retO_fr, ws_asg, ws_asgO, ws_asgT, ws_asgP, ws_aug, ws_setI, ws_xpr, ws_ret, ws_retN, ws_ife, ws_whl, ws_for, ws_brk, ws_cnt, ws_pas, ws_frz, we_var, we_rd, we_mv, we_non, we_bl, we_int, we_str, we_tup, we_lst, we_dis, we_bop, we_neg, we_no, we_cmp, we_chn, we_and, we_orr, we_ite, we_sub, we_slc, we_rev, we_lrev, we_bf, we_bf2, we_mt, we_call, we_al, we_lc, wl_nil, wl_cons, wo_none, wo_some, wc_nil, wc_cons, wi_seq, wi_rng, wi_rng2, wi_keys, wi_items, wi_values, wi_enu, wi_zip, wi_revd, zipQ_lst, zipQ_tup, path_var, path_sub, slP_va, tupAt_some, asDct_map, List.getElem?_cons_zero, List.getElem?_cons_succ, List.set_cons_zero, List.set_cons_succ, slV_va, slR_va, slR_ow, slO_ow, slF_va, slF_ow, slC_ow, slS_ow, cont_sl, look_sl, setC_sl, cont_int, cont_str, cont_bl, cont_non, cont_tup, cont_lst, cont_dct, cont_fr, look_int, look_str, look_bl, look_non, look_tup, look_lst, look_dct, look_fr, dv_fz, dv_fr, asB_bl, asI_int, asL_lst, asT_tup, asFr_fr, ob_some, afterM_none, afterM_some, putC_lst, putC_dct, setM_cons, setM_nil, o_mul, o_fdiv, o_mod, o_add, o_sub, o_addL, o_addT, o_app, o_ins, o_clr, o_len, o_lenT, o_lenD, o_tupL, o_tupT, o_lstL, o_lstT, o_lstD, o_dctD, o_intI, o_intB, o_abs, o_max2, o_min2, o_sum, o_min, o_max, o_any, o_all, o_sorted, s_tup, s_lst, at0, at1, at2, at3, at4, atm1, cmp_eqI, cmp_neI, cmp_ltI, cmp_leI, cmp_gtI, cmp_geI, cmp_eqS, seq_tup, pairUp, List.foldl_nil, List.length_map, bt_one, bt_many, sa_nil, sa_cons, wt_nil, wt_cons, ixs_one, ixs_many, bk_nil, bk_cons, putO_some, no_nil, no_cons, slN_va, slN_no, Bool.true_and, Bool.and_true, true_and, and_true, if_true, if_false, Bool.false_eq_true, Bool.true_eq_false, not_true_eq_false, not_false_eq_true, decide_eq_true_eq, cont_map, look_map, cont_strD, look_strD, cont_tupI, look_tupI, cont_tupS, look_tupS, s_mapS, s_mapI, in_mapS, nin_mapS, in_mapI, nin_mapI, seq_tupI, seq_tupS, seq_lst, len_tupI, len_tupS, lst_tupI, lst_tupS, sub_tupI, sub_tupS, len_map, dct_map, lst_map, look_one, aug_add, in_bls, eq_bls, we_attr, we_meth, we_new, ws_setA, in_tupI, nin_tupI, in_tupIT, in_int, nin_int, in_intL, eq_tupI, ne_tupI, eq_intsL, Bool.not_true, Bool.not_false, Bool.not_eq_true', decide_eq_false_iff_not])
  | `(tactic| simp_arith [$xs,*]) => `(tactic| simp only [$xs,*, wss_cons, wss_nil, seqQ_nil, seqQ_nx, seqQ_rt, seqQ_bk, seqQ_ct, turnQ_nx, turnQ_ct, turnQ_bk, turnQ_rt, retQ_rt, retQ_nx, retO_fz, retO_fr, ws_asg, ws_asgO, ws_asgT, ws_asgP, ws_aug, ws_setI, ws_xpr, ws_ret, ws_retN, ws_ife, ws_whl, ws_for, ws_brk, ws_cnt, ws_pas, ws_frz, we_var, we_rd, we_mv, we_non, we_bl, we_int, we_str, we_tup, we_lst, we_dis, we_bop, we_neg, we_no, we_cmp, we_chn, we_and, we_orr, we_ite, we_sub, we_slc, we_rev, we_lrev, we_bf, we_bf2, we_mt, we_call, we_al, we_lc, wl_nil, wl_cons, wo_none, wo_some, wc_nil, wc_cons, wi_seq, wi_rng, wi_rng2, wi_keys, wi_items, wi_values, wi_enu, wi_zip, wi_revd, zipQ_lst, zipQ_tup, path_var, path_sub, slP_va, tupAt_some, asDct_map, List.getElem?_cons_zero, List.getElem?_cons_succ, List.set_cons_zero, List.set_cons_succ, slV_va, slR_va, slR_ow, slO_ow, slF_va, slF_ow, slC_ow, slS_ow, cont_sl, look_sl, setC_sl, cont_int, cont_str, cont_bl, cont_non, cont_tup, cont_lst, cont_dct, cont_fr, look_int, look_str, look_bl, look_non, look_tup, look_lst, look_dct, look_fr, dv_fz, dv_fr, asB_bl, asI_int, asL_lst, asT_tup, asFr_fr, ob_some, afterM_none, afterM_some, putC_lst, putC_dct, setM_cons, setM_nil, o_mul, o_fdiv, o_mod, o_add, o_sub, o_addL, o_addT, o_app, o_ins, o_clr, o_len, o_lenT, o_lenD, o_tupL, o_tupT, o_lstL, o_lstT, o_lstD, o_dctD, o_intI, o_intB, o_abs, o_max2, o_min2, o_sum, o_min, o_max, o_any, o_all, o_sorted, s_tup, s_lst, at0, at1, at2, at3, at4, atm1, cmp_eqI, cmp_neI, cmp_ltI, cmp_leI, cmp_gtI, cmp_geI, cmp_eqS, seq_tup, pairUp, List.foldl_nil, List.length_map, bt_one, bt_many, sa_nil, sa_cons, wt_nil, wt_cons, ixs_one, ixs_many, bk_nil, bk_cons, putO_some, no_nil, no_cons, slN_va, slN_no, Bool.true_and, Bool.and_true, true_and, and_true, if_true, if_false, Bool.false_eq_true, Bool.true_eq_false, not_true_eq_false, not_false_eq_true, decide_eq_true_eq, cont_map, look_map, cont_strD, look_strD, cont_tupI, look_tupI, cont_tupS, look_tupS, s_mapS, s_mapI, in_mapS, nin_mapS, in_mapI, nin_mapI, seq_tupI, seq_tupS, seq_lst, len_tupI, len_tupS, lst_tupI, lst_tupS, sub_tupI, sub_tupS, len_map, dct_map, lst_map, look_one, aug_add, in_bls, eq_bls, we_attr, we_meth, we_new, ws_setA, in_tupI, nin_tupI, in_tupIT, in_int, nin_int, in_intL, eq_tupI, ne_tupI, eq_intsL, Bool.not_true, Bool.not_false, Bool.not_eq_true', decide_eq_false_iff_not])
local macro_rules
  | `(tactic| simp_arith!) => `(tactic| ((repeat (first | simp_arith | (with_reducible refine And.intro ?_ ?_; · (first | trivial | decide | omega | assumption | (have := line1m; omega) | ((try simp only [List.length_map, List.length_append, List.length_cons, List.length_nil, List.length_take]); (have := line1m); omega))))); try (first | assumption | ((have := line1m); omega) | ((simp only [List.length_map, List.length_append, List.length_cons, List.length_nil, List.length_take]); (have := line1m); omega))))
  | `(tactic| simp_arith! [$xs,*]) => `(tactic| ((repeat (first | simp_arith [$xs,*] | (with_reducible refine And.intro ?_ ?_; · (first | trivial | decide | omega | assumption | (have := line1m; omega) | ((try simp only [List.length_map, List.length_append, List.length_cons, List.length_nil, List.length_take]); (have := line1m); omega))))); try (first | assumption | ((have := line1m); omega) | ((simp only [List.length_map, List.length_append, List.length_cons, List.length_nil, List.length_take]); (have := line1m); omega))))

/-! Sk35: _law_sum, _law_rows, _law_way. -/
open PySem PySem.Spec
open L2 (ixN atI)
theorem minI_le : ∀ {xs : List Int}, xs ≠ [] → minI xs ∈ xs
  | x :: r, _ => (minI_mem x r).1
theorem maxI_le : ∀ {xs : List Int}, xs ≠ [] → maxI xs ∈ xs
  | x :: r, _ => (maxI_mem x r).1
theorem min_max {xs : List Int} (h : xs ≠ []) : minI xs ≤ maxI xs := by
  cases xs with
  | nil => exact absurd rfl h
  | cons x r => exact (minI_mem x r).2 _ (maxI_mem x r).1
theorem slc_tup4 {ds : List D} {p : Nat} {Q : Op → Prop} : ob (slcD (.tup ds) none (some (p : Int))) Q ↔ Q (.fz (.tup (ds.take p))) := by rw [slc_tupl, ob_some]
/-- what the halls' helpers are -/
structure HelpT (T : Tab) : Prop where
  D : T.F "_law_draw" = some ⟨5, 2, drawC⟩
  names : T.F "_law_names" = some ⟨8, 2, namesC⟩
  pool : T.F "_law_pool" = some ⟨4, 1, poolC⟩
  rooms : T.F "_law_rooms" = some ⟨8, 4, roomsC⟩
  some_ : T.F "_law_some" = some ⟨6, 3, someC⟩
  bounds : T.F "_law_bounds" = some ⟨5, 3, boundsC⟩
  sum : T.F "_law_sum" = some ⟨9, 3, L_sum⟩
  rows : T.F "_law_rows" = some ⟨7, 3, L_rows⟩
  way : T.F "_law_way" = some ⟨8, 3, L_way⟩
  wish : T.F "_law_wish" = some ⟨11, 5, L_wish⟩
/-- a room of whole numbers within the bounds -/
structure RoomB (r : List Int) : Prop where
  ne : r ≠ []
  le : r.length ≤ 1000
  b : ∀ i ∈ r, -1100000 ≤ i ∧ i ≤ 1100000
section
variable {T : Tab} {k : Nat} (hT : HelpT T)
include hT
theorem sum_ok {S0 S : Sto} {n m : Nat} {ws : List Nm} {ps : Rooms} {Q : Op → Sto → Prop} (hd : Dk S0 S n m) (hw : ∀ w ∈ ws, ∃ r, aget ps w = some r ∧ RoomB r)
    (q : ∀ (ts : List (Int × Nm)) (a b : Option Int) S', ts.map (·.2) = ws.take 4 → (∀ t ∈ ts, t.1 ∈ [1, -1, 2, -3, 1000000]) → (∀ x ∈ a, -10000000000000 ≤ x ∧ x ≤ 10000000000000) → (∀ x ∈ b, -10000000000000 ≤ x ∧ x ≤ 10000000000000) → Dk S0 S' n m → Q (.fz (Wish.sum ts a b).d) S') :
    WF T (k + 4) "_law_sum" [.ref n, .tup (ws.map strD), roomsD ps] S Q := by
  refine wf_def hT.sum rfl ?_
  show WSs T (k + 3) L_sum [.va (.ref n), .va (.tup (ws.map strD)), .va (roomsD ps), .no, .no, .no, .no, .no, .no] S (retQ Q)
  unfold L_sum
  have s4 : slcD (.tup (ws.map strD)) none (some 4) = some (.fz (.tup ((ws.take 4).map strD))) := by rw [List.map_take]; exact slc_tupl (p := 4)
  simp_arith! [s4]
  refine wforM [3, 4, 5, 6, 7] [.ow (.lst []), .va (.int 0), .va (.int 0), .no, .no] (fun r vs S' => ∃ (ts : List (Int × Nm)) (lo hi : Int) (a6 a7 : Sl), vs = [.ow (.lst (ts.map termD)), .va (.int lo), .va (.int hi), a6, a7] ∧ ts.map (·.2) ++ r = ws.take 4 ∧ (∀ t ∈ ts, t.1 ∈ [1, -1, 2, -3, 1000000]) ∧ lo ≤ hi ∧ -(2 ^ 41) * (ts.length : Int) ≤ lo ∧ hi ≤ 2 ^ 41 * (ts.length : Int) ∧ Dk S0 S' n m) rfl ⟨[], 0, 0, _, _, rfl, rfl, by simp, by omega, by decide, by decide, hd⟩ ?_ ?_
  · rintro w r vs S1 ⟨ts, lo, hi, a6, a7, rfl, e, ht, hlh, h1, h2, d1⟩
    have hm : w ∈ ws := List.mem_of_mem_take (by rw [← e]; simp)
    have hl : ts.length < 4 := by
      have := congrArg List.length e
      rw [List.length_append, List.length_map, List.length_cons, List.length_take] at this
      omega
    obtain ⟨rm, er, hr⟩ := hw w hm
    simp_arith!
    refine drawK hT.D d1 (by decide) (by decide) fun v S2 v0 v1 d2 => ?_
    simp_arith!
    refine o_some v0 v1 fun d hd => ?_
    simp only [List.mem_cons, List.not_mem_nil, or_false] at hd
    obtain ⟨a, rfl, ha⟩ : ∃ a : Int, d = .int a ∧ a ∈ [1, -1, 2, -3, 1000000] := by
      rcases hd with rfl | rfl | rfl | rfl | rfl | rfl <;> exact ⟨_, rfl, by decide⟩
    have hab : -3 ≤ a ∧ a ≤ 1000000 := by
      simp only [List.mem_cons, List.not_mem_nil, or_false] at ha
      omega
    have sq : seqD (tupI rm) = some (rm.map .int) := rfl
    simp_arith! [er, sq]
    have hrl : rm.length ≤ sizeLine := by have := hr.le; have := line1m; omega
    have mul : ∀ x ∈ rm, mulOk a x := fun x hx => .inl (.inl (by omega))
    have mp : rm.map (fun x => D.int (a * x)) = (rm.map (a * ·)).map .int := by rw [List.map_map]; rfl
    have ne : rm.map (a * ·) ≠ [] := by simpa using hr.ne
    have bd : ∀ y ∈ rm.map (a * ·), -(2 ^ 41) ≤ y ∧ y ≤ 2 ^ 41 := fun y hy => by
      obtain ⟨x, hx, rfl⟩ := List.mem_map.mp hy
      have := hr.b x hx
      simp only [List.mem_cons, List.not_mem_nil, or_false] at ha
      rcases ha with rfl | rfl | rfl | rfl | rfl <;> omega
    have mm := min_max ne
    have b1 := bd _ (minI_le ne)
    have b2 := bd _ (maxI_le ne)
    refine wlcN (enc := D.int) (xs := rm) (fun x => .int (a * x)) hrl (fun x hx => ?_) ?_
    · have := mul x hx
      simp_arith!
    rw [mp]
    simp_arith! [er, sq]
    refine wlcN (enc := D.int) (xs := rm) (fun x => .int (a * x)) hrl (fun x hx => ?_) ?_
    · have := mul x hx
      simp_arith!
    rw [mp]
    simp_arith!
    refine ⟨[_, _, _, _, _], rfl, ts ++ [(a, w)], _, _, _, _, by rw [List.map_append]; rfl, by rw [List.map_append, List.append_assoc]; exact e, fun t h => ?_, by omega, ?_, ?_, d2⟩
    · rcases List.mem_append.mp h with h | h
      · exact ht t h
      · rw [List.mem_singleton.mp h]; exact ha
    · rw [List.length_append, List.length_singleton]; omega
    · rw [List.length_append, List.length_singleton]; omega
  · rintro vs S1 ⟨ts, lo, hi, a6, a7, rfl, e, ht, hlh, h1, h2, d1⟩
    rw [List.append_nil] at e
    have hl : ts.length ≤ 4 := by
      have := congrArg List.length e
      rw [List.length_map, List.length_take] at this
      omega
    simp_arith!
    refine bounds_ok hT.D hT.bounds d1.1 hlh (by omega) (by omega) fun x y S2 hx hy _ d2 e2 => ?_
    simp_arith!
    refine q ts x y S2 e ht (fun z hz => ?_) (fun z hz => ?_) (d1.on d2 e2)
    · have := hx z hz; omega
    · have := hy z hz; omega
end

/-! Sk36: _law_rows, _law_way. -/
open PySem PySem.Spec
open L2 (ixN atI)
theorem perm_map_inv {α β : Type} {f : α → β} {l : List β} : ∀ {ws : List α}, l.Perm (ws.map f) → ∃ us : List α, l = us.map f ∧ us.Perm ws := by
  intro ws h
  generalize hm : ws.map f = m at h
  induction h generalizing ws with
  | nil =>
    have : ws = [] := by cases ws with
      | nil => rfl
      | cons _ _ => cases hm
    exact ⟨[], rfl, this ▸ .refl _⟩
  | cons x _ ih =>
    cases ws with
    | nil => cases hm
    | cons w ws =>
      rw [List.map_cons] at hm
      injection hm with e1 e2
      obtain ⟨us, rfl, p⟩ := ih e2
      exact ⟨w :: us, by rw [List.map_cons, e1], p.cons w⟩
  | swap x y l =>
    cases ws with
    | nil => cases hm
    | cons w ws =>
      cases ws with
      | nil => cases hm
      | cons v ws =>
        rw [List.map_cons, List.map_cons] at hm
        injection hm with e1 e2
        injection e2 with e2 e3
        exact ⟨v :: w :: ws, by rw [List.map_cons, List.map_cons, e1, e2, e3], .swap ..⟩
  | trans _ _ ih1 ih2 =>
    obtain ⟨us, e1, p1⟩ := ih2 hm
    obtain ⟨vs, e2, p2⟩ := ih1 e1.symm
    exact ⟨vs, e2, p2.trans p1⟩
/-- some of the things, and the rest -/
theorem some_typed {α : Type}  {enc : α → D} {xs : List α} {fs rest : List D} (h : (fs ++ rest).Perm (xs.map enc)) : ∃ us vs : List α, fs = us.map enc ∧ rest = vs.map enc ∧ (us ++ vs).Perm xs := by
  obtain ⟨ys, e, p⟩ := perm_map_inv h
  refine ⟨ys.take fs.length, ys.drop fs.length, ?_, ?_, by rw [List.take_append_drop]; exact p⟩
  · rw [List.map_take, ← e, List.take_left]
  · rw [List.map_drop, ← e, List.drop_left]
section
variable {T : Tab} {k : Nat} (hT : HelpT T)
include hT
theorem someK {α : Type} {enc : α → D} {S0 S : Sto} {n m : Nat} {xs : List α} {least : Int} {Q : Op → Sto → Prop} (hd : Dk S0 S n m) (hl : xs.length ≤ 900) (h0 : 0 ≤ least) (h1 : least ≤ xs.length)
    (q : ∀ (us vs : List α) S', (us ++ vs).Perm xs → least ≤ us.length → Dk S0 S' n m → Q (.fz (.tup (us.map enc))) S') :
    WF T (k + 2) "_law_some" [.ref n, .lst (xs.map enc), .int least] S Q := by
  refine some_ok hT.D hT.some_ hd.1 (by rw [List.length_map]; exact hl) h0 (by rw [List.length_map]; exact h1) fun fs rest S' p le d e => ?_
  obtain ⟨us, vs, rfl, rfl, p'⟩ := some_typed p
  exact q us vs S' p' (by rw [List.length_map] at le; exact le) (hd.on d e)
end
section
variable {T : Tab} {k : Nat} (hD : T.F "_law_draw" = some ⟨5, 2, drawC⟩) (hRw : T.F "_law_rows" = some ⟨7, 3, L_rows⟩)
include hD hRw
theorem rows_ok {S0 S : Sto} {n m : Nat} {ws : List Nm} {is : List Int} {Q : Op → Sto → Prop} (hd : Dk S0 S n m) (hw : ws.length ≤ 100) (h5 : is.length = 5)
    (q : ∀ (rows : List (List Int)) S', rows.Nodup → rows.length ≤ 6 → (∀ r ∈ rows, r.length = ws.length ∧ ∀ i ∈ r, i ∈ is) → Dk S0 S' n m → Q (.fz (.tup (rows.map tupI))) S') :
    WF T (k + 2) "_law_rows" [.ref n, .tup (ws.map strD), .lst (is.map .int)] S Q := by
  refine wf_def hRw rfl ?_
  show WSs T (k + 1) L_rows [.va (.ref n), .va (.tup (ws.map strD)), .va (.lst (is.map .int)), .no, .no, .no, .no] S (retQ Q)
  unfold L_rows
  simp_arith!
  refine drawK hD hd (by decide) (by decide) fun v S1 v0 v1 d1 => ?_
  simp_arith!
  rw [rng_ok (by omega) v0]
  simp_arith!
  refine wforR [3, 4, 5] [.ow (.lst []), .no, .no] (fun j vs S' => ∃ (rows : List (List Int)) (a4 a5 : Sl), vs = [.ow (.lst (rows.map tupI)), a4, a5] ∧ rows.Nodup ∧ rows.length ≤ j ∧ (∀ r ∈ rows, r.length = ws.length ∧ ∀ i ∈ r, i ∈ is) ∧ Dk S0 S' n m) rfl ⟨[], _, _, rfl, List.nodup_nil, Nat.le_refl _, by simp, d1⟩ ?_ ?_
  · rintro j vs S2 hj ⟨rows, a4, a5, rfl, hn, hl, hr, d2⟩
    simp_arith!
    refine wlcM (enc := strD) (xs := ws) (fun r acc S' => ∃ row : List Int, acc = row.map .int ∧ row.length + r.length = ws.length ∧ (∀ i ∈ row, i ∈ is) ∧ Dk S0 S' n m) ⟨[], rfl, by simp, by simp, d2⟩ ?_ ?_
    · rintro w r acc S3 ⟨row, rfl, hrl, hri, d3⟩
      rw [List.length_cons] at hrl
      simp_arith!
      refine drawK hD d3 (by decide) (by decide) fun x S4 x0 x1 d4 => ?_
      simp_arith!
      refine o_atMap x0 (by omega) fun h => ?_
      simp_arith!
      exact ⟨row ++ [is[x.toNat]], by rw [List.map_append]; rfl, by rw [List.length_append, List.length_singleton]; omega, fun i hi => (List.mem_append.mp hi).elim (hri i) fun z => by rw [List.mem_singleton.mp z]; exact List.getElem_mem h, d4⟩
    · rintro acc S3 ⟨row, rfl, hrl, hri, d3⟩
      rw [List.length_nil, Nat.add_zero] at hrl
      simp_arith!
      have sq : (D.tup (row.map .int)) = tupI row := rfl
      by_cases c : row ∈ rows
      · simp_arith! [sq, c, not_true_eq_false]
        exact ⟨[_, _, _], rfl, rows, _, _, rfl, hn, by omega, hr, d3⟩
      · simp_arith! [sq, c, not_false_eq_true]
        refine ⟨[_, _, _], rfl, rows ++ [row], _, _, by rw [List.map_append]; rfl, List.nodup_append.mpr ⟨hn, by simp, fun a ha b hb e => c (by rw [List.mem_singleton.mp hb] at e; exact e ▸ ha)⟩, by rw [List.length_append, List.length_singleton]; omega, fun r hr' => ?_, d3⟩
        rcases List.mem_append.mp hr' with z | z
        · exact hr r z
        · rw [List.mem_singleton.mp z]; exact ⟨hrl, hri⟩
  · rintro vs S2 ⟨rows, a4, a5, rfl, hn, hl, hr, d2⟩
    simp_arith!
    exact q rows S2 hn (by omega) hr d2
end

/-! Sk37: _law_way, _law_wish. -/
open PySem PySem.Spec
open L2 (ixN atI)
/-- values within the bounds -/
def VB (vs : List Int) : Prop := ∀ i ∈ vs, -1000000 ≤ i ∧ i ≤ 1000000
/-- cells of a wish: names of some, unlike -/
structure CsOk (ns cs : List Nm) : Prop where
  ne : cs ≠ []
  nd : cs.Nodup
  le : cs.length ≤ 12
  sub : ∀ c ∈ cs, c ∈ ns
def sortsL : List Str := ["unlike", "many", "sum", "table", "way", "behind", "same"]
/-- a sound wish of cells out of ns -/
def WOk (ns : List Nm) : Wish → Prop
  | .unlike cs => CsOk ns cs
  | .many vs cs lo hi => CsOk ns cs ∧ vs.Nodup ∧ VB vs ∧ vs.length ≤ 60 ∧ 0 ≤ lo ∧ lo ≤ 1000000000 ∧ 0 ≤ hi ∧ hi ≤ 1000000000
  | .sum ts lo hi => CsOk ns (ts.map (·.2)) ∧ ts.length ≤ 6 ∧ (∀ t ∈ ts, t.1 ≠ 0 ∧ -1000000 ≤ t.1 ∧ t.1 ≤ 1000000) ∧ (∀ x ∈ lo, -10000000000000 ≤ x ∧ x ≤ 10000000000000) ∧ (∀ x ∈ hi, -10000000000000 ≤ x ∧ x ≤ 10000000000000)
  | .table cs rows => CsOk ns cs ∧ rows.Nodup ∧ rows.length ≤ 60 ∧ ∀ r ∈ rows, r.length = cs.length ∧ VB r
  | .way cs steps ends => CsOk ns cs ∧ (steps.map fun s => (s.1, s.2.1)).Nodup ∧ steps.length ≤ 60 ∧ (∀ s ∈ steps, 0 ≤ s.1 ∧ s.1 ≤ 20 ∧ -1000000 ≤ s.2.1 ∧ s.2.1 ≤ 1000000 ∧ 0 ≤ s.2.2 ∧ s.2.2 ≤ 20) ∧ ends.Nodup ∧ ends.length ≤ 21 ∧ ∀ e ∈ ends, 0 ≤ e ∧ e ≤ 20
  | .behind cs g => CsOk ns cs ∧ -1000000000 ≤ g ∧ g ≤ 1000000000
  | .same c vs w => c ∈ ns ∧ vs.Nodup ∧ VB vs ∧ vs.length ≤ 60 ∧ w.deep = 0 ∧ c ∉ w.cells ∧ WOk ns w
section
variable {T : Tab} {k : Nat} (hT : HelpT T)
include hT
theorem way_ok {ns : List Nm} {S0 S : Sto} {n m : Nat} {ws : List Nm} {is : List Int} {Q : Op → Sto → Prop} (hd : Dk S0 S n m) (hw : CsOk ns ws) (h5 : is.length = 5) (hn : is.Nodup) (hb : VB is)
    (q : ∀ (steps : List (Int × Int × Int)) (ends : List Int) S', WOk ns (.way ws steps ends) → Dk S0 S' n m → Q (.fz (Wish.way ws steps ends).d) S') :
    WF T (k + 2) "_law_way" [.ref n, .tup (ws.map strD), .lst (is.map .int)] S Q := by
  refine wf_def hT.way rfl ?_
  show WSs T (k + 1) L_way [.va (.ref n), .va (.tup (ws.map strD)), .va (.lst (is.map .int)), .no, .no, .no, .no, .no] S (retQ Q)
  unfold L_way
  simp_arith!
  refine drawK hT.D hd (by decide) (by decide) fun v S1 v0 v1 d1 => ?_
  simp_arith!
  rw [rng_ok (by omega) (by omega)]
  simp_arith!
  refine wforR [4, 5, 6] [.ow (.lst []), .no, .no] (fun j vs S' => ∃ (steps : List (Int × Int × Int)) (a5 a6 : Sl), vs = [.ow (.lst (steps.map stepD)), a5, a6] ∧ (steps.map fun s => (s.1, s.2.1)).Nodup ∧ steps.length ≤ 5 * j ∧ (∀ s ∈ steps, 0 ≤ s.1 ∧ s.1 < j ∧ s.2.1 ∈ is ∧ 0 ≤ s.2.2 ∧ s.2.2 ≤ 20) ∧ slN (some a5) = true ∧ Dk S0 S' n m) rfl ⟨[], _, _, rfl, List.nodup_nil, Nat.zero_le _, by simp, rfl, d1⟩ ?_ ?_
  · rintro j vs S2 hj ⟨steps, a5, a6, rfl, hn1, hl, hr, _, d2⟩
    simp_arith!
    have sq : seqD (.lst (is.map .int)) = some (is.map .int) := rfl
    simp_arith! [sq]
    refine wforM (enc := D.int) (xs := is) [4, 6] [.ow (.lst (steps.map stepD)), a6] (fun r vs S' => ∃ (steps : List (Int × Int × Int)) (dn : List Int) (a6 : Sl), vs = [.ow (.lst (steps.map stepD)), a6] ∧ dn ++ r = is ∧ (steps.map fun s => (s.1, s.2.1)).Nodup ∧ steps.length ≤ 5 * j + dn.length ∧ (∀ s ∈ steps, 0 ≤ s.1 ∧ (s.1 < j ∨ s.1 = j ∧ s.2.1 ∈ dn) ∧ s.2.1 ∈ is ∧ 0 ≤ s.2.2 ∧ s.2.2 ≤ 20) ∧ Dk S0 S' n m) rfl
      ⟨steps, [], _, rfl, rfl, hn1, by simpa using hl, fun s hs => ⟨(hr s hs).1, .inl (hr s hs).2.1, (hr s hs).2.2⟩, d2⟩ ?_ ?_
    · rintro i r vs S3 ⟨steps, dn, a6, rfl, e, hn1, hl, hr, d3⟩
      have e' : (dn ++ [i]) ++ r = is := by rw [List.append_assoc]; exact e
      have hdl : dn.length < 5 := by
        have := congrArg List.length e
        rw [List.length_append, List.length_cons] at this
        omega
      have hi : i ∈ is := by rw [← e]; simp
      have hid : i ∉ dn := by
        rw [← e, List.nodup_append] at hn
        exact fun z => hn.2.2 i z i List.mem_cons_self rfl
      have more : ∀ s ∈ steps, 0 ≤ s.1 ∧ (s.1 < j ∨ s.1 = j ∧ s.2.1 ∈ dn ++ [i]) ∧ s.2.1 ∈ is ∧ 0 ≤ s.2.2 ∧ s.2.2 ≤ 20 := fun s hs => ⟨(hr s hs).1, (hr s hs).2.1.imp id fun z => ⟨z.1, List.mem_append_left _ z.2⟩, (hr s hs).2.2⟩
      simp_arith!
      refine drawK hT.D d3 (by decide) (by decide) fun x S4 x0 x1 d4 => ?_
      simp_arith!
      split
      · simp_arith!
        refine drawK hT.D d4 (by omega) (by omega) fun y S5 y0 y1 d5 => ?_
        simp_arith!
        refine ⟨[_, _], rfl, steps ++ [((j : Int), i, y)], dn ++ [i], _, by rw [List.map_append]; rfl, e', ?_, by rw [List.length_append, List.length_append, List.length_singleton]; simp only [List.length_singleton]; omega, fun s hs => ?_, d5⟩
        · rw [List.map_append, List.nodup_append]
          refine ⟨hn1, by simp, fun a ha b hb e => ?_⟩
          obtain ⟨s, hs, rfl⟩ := List.mem_map.mp ha
          simp only [List.map_cons, List.map_nil, List.mem_singleton] at hb
          subst hb
          injection e with e1 e2
          rcases (hr s hs).2.1 with z | ⟨_, z⟩
          · omega
          · exact hid (e2 ▸ z)
        · rcases List.mem_append.mp hs with z | z
          · exact more s z
          · rw [List.mem_singleton.mp z]
            exact ⟨by dsimp only; omega, .inr ⟨rfl, by simp⟩, hi, y0, by dsimp only; omega⟩
      · simp_arith!
        exact ⟨[_, _], rfl, steps, dn ++ [i], _, rfl, e', hn1, by rw [List.length_append]; omega, more, d4⟩
    · rintro vs S3 ⟨steps, dn, a6, rfl, e, hn1, hl, hr, d3⟩
      rw [List.append_nil] at e
      subst e
      simp_arith!
      exact ⟨[_, _, _], rfl, steps, _, _, rfl, hn1, by omega, fun s hs => ⟨(hr s hs).1, by rcases (hr s hs).2.1 with z | z <;> omega, (hr s hs).2.2⟩, rfl, d3⟩
  · rintro vs S2 ⟨steps, a5, a6, rfl, hn1, hl, hr, h5n, d2⟩
    have hmany : (1 + v).toNat ≤ 3 := by omega
    simp_arith!
    rw [rng_ok (by omega) (by omega)]
    simp_arith!
    generalize hN : (1 + v).toNat = N at *
    refine wlcM (enc := fun (k : Nat) => D.int (0 + k)) (xs := List.range N) (fun r acc S' => ∃ (dn es : List Nat), dn ++ r = List.range N ∧ es.Sublist dn ∧ acc = (es.map fun (k : Nat) => (0 : Int) + k).map .int ∧ Dk S0 S' n m) ⟨[], [], rfl, List.Sublist.refl _, rfl, d2⟩ ?_ ?_
    · rintro x r acc S3 ⟨dn, es, e, hs, rfl, d3⟩
      have e' : (dn ++ [x]) ++ r = List.range N := by rw [List.append_assoc]; exact e
      have hel : es.length < 3 := by
        have h1 := hs.length_le
        have h2 := congrArg List.length e
        rw [List.length_append, List.length_cons, List.length_range] at h2
        omega
      simp_arith!
      refine drawK hT.D d3 (by decide) (by decide) fun y S4 y0 y1 d4 => ?_
      simp_arith!
      split
      · simp_arith!
        exact ⟨dn ++ [x], es ++ [x], e', hs.append (List.Sublist.refl _), by rw [List.map_append, List.map_append]; rfl, d4⟩
      · simp_arith!
        exact ⟨dn ++ [x], es, e', hs.trans (List.sublist_append_left ..), rfl, d4⟩
    · rintro acc S3 ⟨dn, es, e, hs, rfl, d3⟩
      rw [List.append_nil] at e
      subst e
      have hes : es.Nodup := hs.nodup List.nodup_range
      have hmem : ∀ x ∈ es, x < N := fun x hx => List.mem_range.mp (hs.mem hx)
      simp_arith!
      refine q steps (es.map fun (k : Nat) => (0 : Int) + k) S3 ⟨hw, hn1, by omega, fun s hs => ?_, ?_, ?_, fun x hx => ?_⟩ d3
      · obtain ⟨h1, h2, h3, h4⟩ := hr s hs
        exact ⟨h1, by omega, (hb _ h3).1, (hb _ h3).2, h4⟩
      · refine List.Pairwise.map _ (fun a b h z => h (by omega)) hes
      · rw [List.length_map]
        have h1 := hs.length_le
        rw [List.length_range] at h1
        omega
      · obtain ⟨y, hy, rfl⟩ := List.mem_map.mp hx
        have := hmem y hy
        omega
theorem wishInner_ok {S0 S : Sto} {n m : Nat} {ns : List Nm} {ps : Rooms} {is : List Int} {Q : Op → Sto → Prop} (hd : Dk S0 S n m)
    (hn : ns ≠ []) (hnd : ns.Nodup) (hl : ns.length ≤ 12) (hr : ∀ w ∈ ns, ∃ r, aget ps w = some r ∧ RoomB r) (h5 : is.length = 5) (hin : is.Nodup) (hb : VB is) {sorts : List Str} (sort : Str) (hsm : sort ∈ six)
    (q : ∀ (w : Wish) S', WOk ns w → w.deep = 0 → Dk S0 S' n m → Q (.fz w.d) S') :
    WSs T (k + 4) (L_wish.drop 1) [.va (.ref n), .va (.lst (ns.map strD)), .va (roomsD ps), .va (.lst (is.map .int)), .va (.lst (sorts.map .str)), .va (.str sort), .no, .no, .no, .no, .no] S (retQ Q) := by
  have hn1 : 0 < ns.length := List.length_pos_iff.mpr hn
  show WSs T (k + 4) [_, _, _, _, _, _, _, _, _, _, _] _ _ _
  simp_arith!
  refine someK hT (enc := strD) (xs := ns) hd (by omega) (by repeat' split <;> omega) (by repeat' split <;> omega) fun us vs S2 p le d2 => ?_
  have cs : CsOk ns us := by
    have hlen : 1 ≤ us.length := by
      have : (1 : Int) ≤ us.length := Int.le_trans (by repeat' split <;> omega) le
      omega
    have hpn := (p.nodup_iff).mpr hnd
    rw [List.nodup_append] at hpn
    have hpl := p.length_eq
    rw [List.length_append] at hpl
    exact ⟨fun z => (by rw [z] at hlen; cases hlen), hpn.1, by omega, fun c hc => p.mem_iff.mp (List.mem_append_left _ hc)⟩
  have hul := cs.le
  clear le
  simp only [six, List.mem_cons, List.not_mem_nil, or_false] at hsm
  rcases hsm with rfl | rfl | rfl | rfl | rfl | rfl
  · simp (decide := true) only [dv_fz, if_true]
    simp_arith!
    exact q (.unlike us) S2 cs rfl d2
  · simp (decide := true) only [dv_fz, if_true, if_false]
    simp_arith!
    refine drawK hT.D d2 (by omega) (by omega) fun lo S3 lo0 lo1 d3 => ?_
    simp_arith!
    refine someK hT (enc := D.int) (xs := is) d3 (by omega) (by omega) (by omega) fun vs' _ S4 p' _ d4 => ?_
    simp_arith!
    refine drawK hT.D d4 (by omega) (by omega) fun hi S5 hi0 hi1 d5 => ?_
    simp_arith!
    have hpn := (p'.nodup_iff).mpr hin
    rw [List.nodup_append] at hpn
    have hpl := p'.length_eq
    rw [List.length_append] at hpl
    exact q (.many vs' us lo (lo + hi)) S5 ⟨cs, hpn.1, fun i hi => hb i (p'.mem_iff.mp (List.mem_append_left _ hi)), by omega, by omega, by omega, by omega, by omega⟩ rfl d5
  · simp (decide := true) only [dv_fz, if_true, if_false]
    simp_arith!
    refine sum_ok hT (k := k) d2 (fun w hw => hr w (cs.sub w hw)) fun ts a b S3 e ht ha hb d3 => ?_
    simp_arith!
    refine q _ S3 ⟨?_, ?_, fun t h => ?_, ha, hb⟩ rfl d3
    · rw [e]
      exact ⟨fun z => cs.ne (by simpa using z), (List.take_sublist ..).nodup cs.nd, Nat.le_trans (List.length_take_le' ..) cs.le, fun c hc => cs.sub c (List.mem_of_mem_take hc)⟩
    · have := congrArg List.length e
      rw [List.length_map, List.length_take] at this
      omega
    · have := ht t h
      simp only [List.mem_cons, List.not_mem_nil, or_false] at this
      omega
  · simp (decide := true) only [dv_fz, if_true, if_false]
    simp_arith!
    refine rows_ok hT.D hT.rows d2 (by omega) h5 fun rows S3 h1 h2 h3 d3 => ?_
    simp_arith!
    exact q (.table us rows) S3 ⟨cs, h1, by omega, fun r hr => ⟨(h3 r hr).1, fun i hi => hb i ((h3 r hr).2 i hi)⟩⟩ rfl d3
  · simp (decide := true) only [dv_fz, if_true, if_false]
    simp_arith!
    refine way_ok hT d2 cs h5 hin hb fun steps ends S3 h1 d3 => ?_
    simp_arith!
    exact q _ S3 h1 rfl d3
  · simp (decide := true) only [dv_fz, if_true, if_false]
    simp_arith!
    refine drawK hT.D d2 (by decide) (by decide) fun x S3 x0 x1 d3 => ?_
    simp_arith!
    refine o_some x0 x1 fun d hd => ?_
    have hd : ∃ g : Int, d = .int g ∧ -1 ≤ g ∧ g ≤ 97 := by
      simp only [List.mem_cons, List.not_mem_nil, or_false] at hd
      rcases hd with rfl | rfl | rfl | rfl | rfl <;> exact ⟨_, rfl, by decide, by decide⟩
    obtain ⟨g, rfl, g0, g1⟩ := hd
    simp_arith!
    exact q (.behind us g) S3 ⟨cs, by omega, by omega⟩ rfl d3
end

/-! Sk38: _law_wish, _law_hall. -/
open PySem PySem.Spec
open L2 (ixN atI)
theorem ne_strD {a b : Nm} : cmpD .ne (strD a) (strD b) = some (!decide (a = b)) := by
  show some (!decide (st a = st b)) = _
  congr 2
  exact decide_eq_decide.mpr ⟨st_inj, fun h => by rw [h]⟩
theorem eq_strD {a b : Nm} : cmpD .eq (strD a) (strD b) = some (decide (a = b)) := by
  show some (decide (st a = st b)) = _
  congr 1
  exact decide_eq_decide.mpr ⟨st_inj, fun h => by rw [h]⟩
theorem pls_strs {n : Nat} {ws : List Nm} (h : ∀ w ∈ ws, NmOk w) : pls n (ws.map strD) = true := pls_mem.mpr fun d hd => by
  obtain ⟨w, hw, rfl⟩ := List.mem_map.mp hd
  have : PyData.strOk (st w) = true := by
    show (List.toArray w).all (· < 0x110000) = true
    rw [List.all_toArray, List.all_eq_true]
    intro x hx
    have := (h w hw).2 x hx
    exact decide_eq_true (by omega)
  cases n <;> exact this
theorem pls_nil {n : Nat} : pls n [] = true := by cases n <;> rfl
theorem emp_strs {ws : List Nm} (h : ∀ w ∈ ws, NmOk w) : cmpD .eq (.lst (ws.map strD)) (.lst []) = some (decide (ws = [])) := by
  refine @deq_pl 1 1 (.lst (ws.map strD)) (.lst []) (ws = []) _ (by decide) (by decide) (pls_strs (n := 0) h) (pls_nil (n := 0)) ?_
  exact ⟨fun e => (by injection e with e; simpa using e), fun e => by rw [e]; rfl⟩
theorem CsOk.mono {ns ms cs : List Nm} (h : CsOk ns cs) (m : ∀ c ∈ ns, c ∈ ms) : CsOk ms cs := ⟨h.ne, h.nd, h.le, fun c hc => m c (h.sub c hc)⟩
theorem WOk.mono {ns ms : List Nm} {w : Wish} (h : WOk ns w) (m : ∀ c ∈ ns, c ∈ ms) : WOk ms w := by
  induction w with
  | unlike _ => exact CsOk.mono h m
  | same _ _ w ih => exact ⟨m _ h.1, h.2.1, h.2.2.1, h.2.2.2.1, h.2.2.2.2.1, h.2.2.2.2.2.1, ih h.2.2.2.2.2.2⟩
  | _ => exact ⟨CsOk.mono h.1 m, h.2⟩
theorem WOk.sub {ns : List Nm} {w : Wish} (h : WOk ns w) : ∀ c ∈ w.cells, c ∈ ns := by
  induction w with
  | unlike _ => exact CsOk.sub h
  | same _ _ w ih => exact fun c hc => (List.mem_cons.mp hc).elim (fun z => z ▸ h.1) fun z => ih h.2.2.2.2.2.2 c z
  | _ => exact h.1.sub
section
variable {T : Tab} {k : Nat} (hT : HelpT T)
include hT
theorem wishSix_ok {S0 S : Sto} {n m : Nat} {ns : List Nm} {ps : Rooms} {is : List Int} {Q : Op → Sto → Prop} (hd : Dk S0 S n m)
    (hn : ns ≠ []) (hnd : ns.Nodup) (hl : ns.length ≤ 12) (hr : ∀ w ∈ ns, ∃ r, aget ps w = some r ∧ RoomB r) (h5 : is.length = 5) (hin : is.Nodup) (hb : VB is)
    (q : ∀ (w : Wish) S', WOk ns w → w.deep = 0 → Dk S0 S' n m → Q (.fz w.d) S') :
    WF T (k + 5) "_law_wish" [.ref n, .lst (ns.map strD), roomsD ps, .lst (is.map .int), .lst (six.map .str)] S Q := by
  refine wf_def hT.wish rfl ?_
  show WSs T (k + 4) (_ :: L_wish.drop 1) [.va (.ref n), .va (.lst (ns.map strD)), .va (roomsD ps), .va (.lst (is.map .int)), .va (.lst (six.map .str)), .no, .no, .no, .no, .no, .no] _ _
  simp_arith!
  refine drawK hT.D hd (by decide) (by decide) fun v S1 v0 v1 d1 => ?_
  simp_arith!
  refine o_atMap v0 v1 fun h => ?_
  have hm := List.getElem_mem h
  generalize six[v.toNat] = sort at hm
  simp_arith!
  exact wishInner_ok hT d1 hn hnd hl hr h5 hin hb sort hm q
theorem wish_ok {S0 S : Sto} {n m : Nat} {ns : List Nm} {ps : Rooms} {is : List Int} {Q : Op → Sto → Prop} (hd : Dk S0 S n m)
    (hn : ns ≠ []) (hnd : NmsOk ns) (hl : ns.length ≤ 12) (hr : ∀ w ∈ ns, ∃ r, aget ps w = some r ∧ RoomB r) (h5 : is.length = 5) (hin : is.Nodup) (hb : VB is)
    (q : ∀ (w : Wish) S', WOk ns w → w.deep ≤ 1 → Dk S0 S' n m → Q (.fz w.d) S') :
    WF T (k + 6) "_law_wish" [.ref n, .lst (ns.map strD), roomsD ps, .lst (is.map .int), .lst (sortsL.map .str)] S Q := by
  refine wf_def hT.wish rfl ?_
  show WSs T (k + 5) L_wish [.va (.ref n), .va (.lst (ns.map strD)), .va (roomsD ps), .va (.lst (is.map .int)), .va (.lst (sortsL.map .str)), .no, .no, .no, .no, .no, .no] S (retQ Q)
  show WSs T (k + 5) (_ :: L_wish.drop 1) _ _ _
  simp_arith!
  refine drawK hT.D hd (by decide) (by decide) fun v S1 v0 v1 d1 => ?_
  simp_arith!
  refine o_atMap v0 v1 fun h => ?_
  have hm := List.getElem_mem h
  generalize sortsL[v.toNat] = sort at hm
  simp_arith!
  by_cases hs : sort ∈ six
  · exact wishInner_ok hT (k := k + 1) d1 hn hnd.nd hl hr h5 hin hb sort hs fun w S' h1 h2 h3 => q w S' h1 (by omega) h3
  have hs : sort = "same" := by
    simp only [sortsL, List.mem_cons, List.not_mem_nil, or_false] at hm
    rcases hm with rfl | rfl | rfl | rfl | rfl | rfl | rfl <;> first
      | rfl
      | exact absurd (by decide) hs
  subst hs
  have hn1 : 0 < ns.length := List.length_pos_iff.mpr hn
  show WSs T (k + 5) [_, _, _, _, _, _, _, _, _, _, _] _ _ _
  simp_arith!
  refine someK hT (enc := strD) (xs := ns) d1 (by omega) (by repeat' split <;> omega) (by repeat' split <;> omega) fun us vs S2 p le d2 => ?_
  have hlen : 1 ≤ us.length := by
    have : (1 : Int) ≤ us.length := Int.le_trans (by repeat' split <;> omega) le
    omega
  have hpn := (p.nodup_iff).mpr hnd.nd
  rw [List.nodup_append] at hpn
  have hpl := p.length_eq
  rw [List.length_append] at hpl
  have cs : CsOk ns us := ⟨fun z => (by rw [z] at hlen; cases hlen), hpn.1, by omega, fun c hc => p.mem_iff.mp (List.mem_append_left _ hc)⟩
  clear le
  cases us with
  | nil => exact absurd rfl cs.ne
  | cons u us =>
  have hu : u ∈ ns := cs.sub u List.mem_cons_self
  simp (decide := true) only [dv_fz, if_true, if_false]
  have sq : seqD (.lst (ns.map strD)) = some (ns.map strD) := rfl
  simp_arith! [sq]
  refine wlcP (enc := strD) (xs := ns) (fun w => !decide (w = u)) strD (by have := line1m; omega) (fun w hw => ?_) ?_
  · simp_arith! [List.map_cons, ne_strD]
    by_cases c : w = u
    · simp [c]
      simp_arith!
    · simp [c]
      simp_arith!
  have hfm : ∀ w ∈ ns.filter (fun w => !decide (w = u)), w ∈ ns ∧ w ≠ u := fun w hw => by
    rw [List.mem_filter] at hw
    exact ⟨hw.1, by simpa using hw.2⟩
  generalize hf : ns.filter (fun w => !decide (w = u)) = fs at hfm
  have hfn : fs.Nodup := hf ▸ List.Pairwise.filter _ hnd.nd
  have hfl : fs.length ≤ ns.length := hf ▸ List.length_filter_le ..
  simp_arith! [emp_strs fun w hw => hnd.ok w (hfm w hw).1]
  by_cases c : fs = []
  · rw [if_pos c]
    simp_arith!
    exact q (.unlike (u :: us)) S2 cs (Nat.zero_le _) d2
  rw [if_neg c]
  simp_arith!
  refine wishSix_ok hT (k := k) d2 c hfn (by omega) (fun w hw => hr w (hfm w hw).1) h5 hin hb fun w S3 w1 w2 d3 => ?_
  simp_arith! [List.map_cons]
  refine someK hT (enc := D.int) (xs := is) d3 (by omega) (by omega) (by omega) fun vs' _ S4 p' _ d4 => ?_
  simp_arith!
  have hpn' := (p'.nodup_iff).mpr hin
  rw [List.nodup_append] at hpn'
  have hpl' := p'.length_eq
  rw [List.length_append] at hpl'
  exact q (.same u vs' w) S4 ⟨hu, hpn'.1, fun i hi => hb i (p'.mem_iff.mp (List.mem_append_left _ hi)), by omega, w2, fun z => (hfm _ (w1.sub _ z)).2 rfl, w1.mono fun c hc => (hfm c hc).1⟩ (by show w.deep + 1 ≤ 1; omega) d4
/-- a hall: its cells with their rooms, its wishes -/
structure Hall where
  cells : Rooms
  wishes : List Wish
def cellD (p : Nm × List Int) : D := .tup [strD p.1, tupI p.2]
def Hall.d (h : Hall) : D := .tup [.tup (h.cells.map cellD), .tup (h.wishes.map Wish.d)]
/-- a sound one -/
structure HOk' (h : Hall) : Prop where
  nm : NmsOk (akeys h.cells)
  rm : ∀ p ∈ h.cells, p.2 ≠ [] ∧ p.2.length ≤ 10 ∧ p.2.Pairwise (· < ·) ∧ VB p.2
  ws : ∀ w ∈ h.wishes, WOk (akeys h.cells) w ∧ w.deep ≤ 1
structure HallT (T : Tab) : Prop extends HelpT T where
  hall : T.F "_law_hall" = some ⟨11, 4, L_hall⟩
end
theorem hall_ok {T : Tab} {k : Nat} (hT : HallT T) {S0 S : Sto} {n m : Nat} {mc mr mw : Nat} {Q : Op → Sto → Prop} (hd : Dk S0 S n m) (h1 : 1 ≤ mc) (h12 : mc ≤ 12) (hr1 : 1 ≤ mr) (hr10 : mr ≤ 10) (hw : mw ≤ 40)
    (q : ∀ (h : Hall) S', HOk' h → 1 ≤ h.cells.length → h.cells.length ≤ mc → (∀ p ∈ h.cells, p.2.length ≤ mr) → h.wishes.length ≤ mw → Dk S0 S' n m → Q (.fz h.d) S') :
    WF T (k + 7) "_law_hall" [.ref n, .int mc, .int mr, .int mw] S Q := by
  refine wf_def hT.hall rfl ?_
  show WSs T (k + 6) L_hall [.va (.ref n), .va (.int mc), .va (.int mr), .va (.int mw), .no, .no, .no, .no, .no, .no, .no] S (retQ Q)
  unfold L_hall
  simp_arith!
  refine drawK hT.D hd (by omega) (by omega) fun v S1 v0 v1 d1 => ?_
  simp_arith!
  refine names_ok hT.D hT.names d1.1 (by omega) (by omega) fun ns S2 hnl hns d2 e2 => ?_
  have d2 := d1.on d2 e2
  simp_arith!
  refine pool_ok hT.D hT.pool d2.1 fun is S3 h5 hp hb d3 e3 => ?_
  have d3 := d2.on d3 e3
  simp_arith!
  refine rooms_ok hT.D hT.rooms d3.1 hns.nd (by omega) h5 hr1 fun ps S4 hk hps d4 e4 => ?_
  have d4 := d3.on d4 e4
  rw [rooms_eq]
  simp_arith!
  refine drawK hT.D d4 (by omega) (by omega) fun x S5 x0 x1 d5 => ?_
  simp_arith!
  rw [rng_ok (by omega) (by omega)]
  simp_arith!
  have hnz : ns ≠ [] := fun z => by rw [z] at hnl; simp at hnl; omega
  have hks : akeys ps = ns := hk
  have hroom : ∀ w ∈ ns, ∃ r, aget ps w = some r ∧ RoomB r ∧ RoomOk is mr r := fun w hw => by
    obtain ⟨r, e⟩ := aget_some (hks.symm ▸ hw : w ∈ akeys ps)
    have ro := hps _ (aget_mem e)
    have hl : r.length ≤ mr := ro.le
    exact ⟨r, e, ⟨ro.ne, by omega, fun i hi => by have := hb i (ro.sub.subset hi); omega⟩, ro⟩
  have hin : is.Nodup := hp.imp fun h => Int.ne_of_lt h
  refine wlcM (enc := fun (k : Nat) => D.int (0 + k)) (xs := List.range x.toNat) (fun r acc S' => ∃ wl : List Wish, acc = wl.map Wish.d ∧ wl.length + r.length = x.toNat ∧ (∀ w ∈ wl, WOk ns w ∧ w.deep ≤ 1) ∧ Dk S0 S' n m) ⟨[], rfl, by simp, by simp, d5⟩ ?_ ?_
  · rintro j r acc S6 ⟨wl, rfl, hl, hwl, d6⟩
    rw [List.length_cons] at hl
    simp_arith!
    refine wish_ok hT.toHelpT (k := k) d6 hnz hns (by omega) (fun w hw => (hroom w hw).imp fun r z => ⟨z.1, z.2.1⟩) h5 hin hb fun w S7 w1 w2 d7 => ?_
    simp_arith!
    exact ⟨wl ++ [w], by rw [List.map_append]; rfl, by rw [List.length_append, List.length_singleton]; omega, fun y hy => (List.mem_append.mp hy).elim (hwl y) fun z => by rw [List.mem_singleton.mp z]; exact ⟨w1, w2⟩, d7⟩
  · rintro acc S6 ⟨wl, rfl, hl, hwl, d6⟩
    rw [List.length_nil, Nat.add_zero] at hl
    have sq : seqD (.lst (ns.map strD)) = some (ns.map strD) := rfl
    simp_arith! [sq]
    refine wlcN (enc := strD) (xs := ns) (fun w => .tup [strD w, tupI ((aget ps w).getD [])]) (by have := line1m; omega) (fun w hw => ?_) ?_
    · obtain ⟨r, e, _⟩ := hroom w hw
      simp_arith! [e, Option.getD_some]
    simp_arith!
    have hcl : ps.length = ns.length := by rw [← hks]; exact (List.length_map ..).symm
    have hce : ns.map (fun w => D.tup [strD w, tupI ((aget ps w).getD [])]) = ps.map cellD := by
      rw [← hks]
      unfold akeys
      rw [List.map_map]
      refine List.map_congr_left fun p hp => ?_
      have : aget ps p.1 = some p.2 := aget_of (hks.symm ▸ hns.nd) hp
      show D.tup [strD p.1, tupI ((aget ps p.1).getD [])] = cellD p
      rw [this]
      rfl
    rw [hce]
    refine q ⟨ps, wl⟩ S6 ⟨hks.symm ▸ hns, fun p hp' => ?_, fun w hw => hks.symm ▸ hwl w hw⟩ (by show 1 ≤ ps.length; omega) (by show ps.length ≤ mc; omega) (fun p hp => (hps p hp).le) (by show wl.length ≤ mw; omega) d6
    have ro := hps p hp'
    have hl' : p.2.length ≤ mr := ro.le
    exact ⟨ro.ne, by omega, hp.sublist ro.sub, fun i hi => hb i (ro.sub.subset hi)⟩

/-! Sk39: _law_fillings. -/
open PySem PySem.Spec
open L2 (ixN atI)
inductive All2 {α β : Type} (R : α → β → Prop) : List α → List β → Prop
  | nil : All2 R [] []
  | cons {a : α} {b : β} {as : List α} {bs : List β} : R a b → All2 R as bs → All2 R (a :: as) (b :: bs)
/-- all fillings of cells by their rooms, in the order in which they are made -/
def grow (acc : List Fil) (c : Nm × List Int) : List Fil := acc.flatMap fun f => c.2.map fun v => f ++ [(c.1, v)]
def fills (cs : Rooms) : List Fil := cs.foldl grow [[]]
/-- a filling of cells by their rooms -/
def FillOf (cs : Rooms) (f : Fil) : Prop := akeys f = akeys cs ∧ ∀ i (h : i < f.length) (h' : i < cs.length), f[i].2 ∈ cs[i].2
theorem foldl_grow {cs : Rooms} : ∀ {acc : List Fil} {f : Fil}, f ∈ cs.foldl grow acc ↔ ∃ g ∈ acc, ∃ h : Fil, f = g ++ h ∧ All2 (fun c x => x.1 = c.1 ∧ x.2 ∈ c.2) cs h := by
  induction cs with
  | nil =>
    intro acc f
    constructor
    · exact fun h => ⟨f, h, [], (List.append_nil _).symm, .nil⟩
    · rintro ⟨g, hg, h, rfl, hh⟩
      cases hh
      rw [List.append_nil]
      exact hg
  | cons c cs ih =>
    intro acc f
    rw [List.foldl_cons, ih]
    constructor
    · rintro ⟨g, hg, h, rfl, hh⟩
      unfold grow at hg
      obtain ⟨g0, h0, hg⟩ := List.mem_flatMap.mp hg
      obtain ⟨v, hv, rfl⟩ := List.mem_map.mp hg
      exact ⟨g0, h0, (c.1, v) :: h, by rw [List.append_assoc]; rfl, .cons ⟨rfl, hv⟩ hh⟩
    · rintro ⟨g, hg, h, rfl, hh⟩
      cases hh with
      | cons hx ht =>
        rename_i x h
        obtain ⟨x1, x2⟩ := x
        obtain ⟨rfl, hv⟩ := hx
        exact ⟨g ++ [(c.1, x2)], List.mem_flatMap.mpr ⟨g, hg, List.mem_map_of_mem (f := fun v => g ++ [(c.1, v)]) hv⟩, h, by rw [List.append_assoc]; rfl, ht⟩
abbrev Fits (cs : Rooms) (f : Fil) : Prop := All2 (fun (c : Nm × List Int) (x : Nm × Int) => x.1 = c.1 ∧ x.2 ∈ c.2) cs f
theorem mem_fills {cs : Rooms} {f : Fil} : f ∈ fills cs ↔ Fits cs f := by
  unfold fills
  rw [foldl_grow]
  constructor
  · rintro ⟨g, hg, h, rfl, hh⟩
    rw [List.mem_singleton.mp hg]
    exact hh
  · exact fun h => ⟨[], List.mem_singleton.mpr rfl, f, rfl, h⟩
theorem fits_keys {cs : Rooms} {f : Fil} (h : Fits cs f) : akeys f = akeys cs := by
  induction h with
  | nil => rfl
  | cons h _ ih =>
    unfold akeys at ih ⊢
    rw [List.map_cons, List.map_cons, ih, h.1]
theorem fits_get {cs : Rooms} {f : Fil} (h : Fits cs f) {n : Nm} {r : List Int} (hr : aget cs n = some r) : ∃ v, aget f n = some v ∧ v ∈ r := by
  induction h with
  | nil => cases hr
  | cons h _ ih =>
    unfold aget at hr ⊢
    rw [h.1]
    split at hr
    · rename_i e
      cases hr
      rw [if_pos e]
      exact ⟨_, rfl, h.2⟩
    · rename_i e
      rw [if_neg e]
      exact ih hr
def nfills (cs : Rooms) : Nat := (cs.map fun c => c.2.length).foldl (· * ·) 1
theorem grow_len {acc : List Fil} {c : Nm × List Int} : (grow acc c).length = acc.length * c.2.length := by
  unfold grow
  rw [List.length_flatMap]
  simp only [List.length_map]
  induction acc with
  | nil => simp
  | cons a r ih => simp [ih, Nat.add_mul]; omega
theorem foldl_len {cs : Rooms} : ∀ {acc : List Fil}, (cs.foldl grow acc).length = (cs.map fun c => c.2.length).foldl (· * ·) acc.length := by
  induction cs with
  | nil => intro acc; rfl
  | cons c cs ih =>
    intro acc
    rw [List.foldl_cons, ih, grow_len]
    rfl
theorem fills_len {cs : Rooms} : (fills cs).length = nfills cs := foldl_len
/-- the cells by their names -/
def cellsBy (ps : Rooms) (ns : List Nm) : Rooms := ns.map fun n => (n, (aget ps n).getD [])
theorem keys_by {ps : Rooms} {ns : List Nm} : akeys (cellsBy ps ns) = ns := by
  unfold akeys cellsBy
  rw [List.map_map]
  exact List.map_id' ns
theorem by_self {ps : Rooms} (hn : (akeys ps).Nodup) : cellsBy ps (akeys ps) = ps := by
  unfold cellsBy akeys
  rw [List.map_map]
  conv => rhs; rw [← List.map_id ps]
  refine List.map_congr_left fun p hp => ?_
  show (p.1, (aget ps p.1).getD []) = p
  rw [aget_of hn hp]
  rfl
theorem get_by {ps : Rooms} {ns : List Nm} {n : Nm} {r : List Int} (h : n ∈ ns) (hr : aget ps n = some r) : aget (cellsBy ps ns) n = some r := by
  unfold cellsBy
  induction ns with
  | nil => cases h
  | cons m ms ih =>
    rw [List.map_cons]
    unfold aget
    by_cases e : m = n
    · rw [if_pos e, e, hr]; rfl
    · rw [if_neg e]
      exact ih ((List.mem_cons.mp h).elim (fun z => (e z.symm).elim) id)
theorem growL_mono {cs : Rooms} (h : ∀ c ∈ cs, 1 ≤ c.2.length) : ∀ {n : Nat}, n ≤ (cs.map fun c => c.2.length).foldl (· * ·) n := by
  induction cs with
  | nil => intro n; exact Nat.le_refl _
  | cons c cs ih =>
    intro n
    rw [List.map_cons, List.foldl_cons]
    exact Nat.le_trans (Nat.le_mul_of_pos_right n (h c List.mem_cons_self)) (ih fun c hc => h c (List.mem_cons_of_mem _ hc))
theorem fillings_ok {T : Tab} {k : Nat} (hF : T.F "_law_fillings" = some ⟨8, 2, L_fillings⟩) {S : Sto} {d : D} {ns : List Nm} {ps : Rooms} {Q : Op → Sto → Prop} (hs : seqD d = some (ns.map strD)) (hd : ∀ ρ S, look ρ S (.fz d) = some d ∧ cont ρ S (.fz d) = some d) (hnd : ns.Nodup) (hl : ns.length ≤ 900)
    (hr : ∀ n ∈ ns, ∃ r, aget ps n = some r ∧ r ≠ []) (hb : nfills (cellsBy ps ns) ≤ 100000) (hz : 100000 < sizeLine) (q : Q (.fz (.lst ((fills (cellsBy ps ns)).map filD))) S) : WF T (k + 1) "_law_fillings" [d, roomsD ps] S Q := by
  refine wf_def hF rfl ?_
  show WSs T k L_fillings [.va d, .va (roomsD ps), .no, .no, .no, .no, .no, .no] S (retQ Q)
  unfold L_fillings
  simp_arith! [List.length_nil, List.all_nil]
  rw [hs]
  simp_arith!
  refine wforM (enc := strD) (xs := ns) [2, 3, 4, 5, 6, 7] [.va (.lst [.dct []]), .no, .no, .no, .no, .no] (fun r vs S' => S' = S ∧ ∃ (dn : List Nm) (a3 a4 a5 a6 a7 : Sl), vs = [.va (.lst ((fills (cellsBy ps dn)).map filD)), a3, a4, a5, a6, a7] ∧ dn ++ r = ns) rfl ⟨rfl, [], _, _, _, _, _, rfl, rfl⟩ ?_ ?_
  · rintro n r vs S1 ⟨rfl, dn, a3, a4, a5, a6, a7, rfl, e⟩
    have hm : n ∈ ns := by rw [← e]; simp
    have hdn : n ∉ dn := by
      rw [← e, List.nodup_append] at hnd
      exact fun z => hnd.2.2 n z n List.mem_cons_self rfl
    obtain ⟨rm, er, hne⟩ := hr n hm
    have hcd : cellsBy ps (dn ++ [n]) = cellsBy ps dn ++ [(n, rm)] := by
      unfold cellsBy
      rw [List.map_append, List.map_singleton, er]
      rfl
    have hfd : fills (cellsBy ps (dn ++ [n])) = grow (fills (cellsBy ps dn)) (n, rm) := by
      rw [hcd]
      unfold fills
      rw [List.foldl_append]
      rfl
    have hbd : (grow (fills (cellsBy ps dn)) (n, rm)).length ≤ 100000 := by
      rw [← hfd, fills_len]
      refine Nat.le_trans ?_ hb
      have : cellsBy ps ns = cellsBy ps (dn ++ [n]) ++ cellsBy ps r := by
        unfold cellsBy
        rw [← List.map_append, List.append_assoc]
        rw [show [n] ++ r = n :: r from rfl, e]
      rw [this]
      unfold nfills
      rw [List.map_append, List.foldl_append]
      refine growL_mono fun c hc => ?_
      unfold cellsBy at hc
      obtain ⟨m, hm, rfl⟩ := List.mem_map.mp hc
      obtain ⟨r', er', hne'⟩ := hr m (by rw [← e]; simp [hm])
      show 1 ≤ ((aget ps m).getD []).length
      rw [er']
      exact List.length_pos_iff.mpr hne'
    have hfk : ∀ f ∈ fills (cellsBy ps dn), akeys f = dn := fun f hf => by rw [fits_keys (mem_fills.mp hf), keys_by]
    have hdl : dn.length ≤ 900 := by
      have := congrArg List.length e
      rw [List.length_append, List.length_cons] at this
      omega
    simp_arith!
    have sq : ∀ xs : List Fil, seqD (.lst (xs.map filD)) = some (xs.map filD) := fun _ => rfl
    simp_arith! [sq]
    refine wforM (enc := filD) (xs := fills (cellsBy ps dn)) [4, 5, 6, 7] [.ow (.lst []), a5, a6, a7] (fun r vs S' => S' = S1 ∧ ∃ (d2 : List Fil) (a5 a6 a7 : Sl), vs = [.ow (.lst ((grow d2 (n, rm)).map filD)), a5, a6, a7] ∧ d2 ++ r = fills (cellsBy ps dn)) rfl ⟨rfl, [], _, _, _, rfl, rfl⟩ ?_ ?_
    · rintro f r2 vs S2 ⟨rfl, d2, a5, a6, a7, rfl, e2⟩
      have hf : f ∈ fills (cellsBy ps dn) := by rw [← e2]; simp
      have hkf := hfk f hf
      have hnf : n ∉ akeys f := by rw [hkf]; exact hdn
      have hg2 : grow (d2 ++ [f]) (n, rm) = grow d2 (n, rm) ++ rm.map fun v => f ++ [(n, v)] := by
        unfold grow
        rw [List.flatMap_append]
        simp
      have hgb : (grow d2 (n, rm)).length + rm.length ≤ 100000 := by
        have h1 : (grow (d2 ++ [f]) (n, rm)).length ≤ (grow (fills (cellsBy ps dn)) (n, rm)).length := by
          rw [grow_len, grow_len]
          refine Nat.mul_le_mul_right _ ?_
          rw [← e2]
          simp
        rw [hg2, List.length_append, List.length_map] at h1
        omega
      have sq2 : seqD (tupI rm) = some (rm.map .int) := rfl
      simp_arith! [er, sq2]
      refine wforM (enc := D.int) (xs := rm) [4, 6, 7] [.ow (.lst ((grow d2 (n, rm)).map filD)), a6, a7] (fun r vs S' => S' = S2 ∧ ∃ (d3 : List Int) (a6 a7 : Sl), vs = [.ow (.lst ((grow d2 (n, rm) ++ d3.map fun v => f ++ [(n, v)]).map filD)), a6, a7] ∧ d3 ++ r = rm) rfl ⟨rfl, [], _, _, by rw [List.map_nil, List.append_nil], rfl⟩ ?_ ?_
      · rintro v r3 vs S3 ⟨rfl, d3, a6, a7, rfl, e3⟩
        have h3 : d3.length < rm.length := by rw [← e3]; simp
        have dd : bfD .dict (filD f) = some (.fr (filD f)) := rfl
        have pm : putC (.int v) (filD f) (strD n) = fun Q => f.length < sizeLine ∧ Q (filD (aput f n v)) := funext fun Q => propext (p_mapS (by rw [hkf]; rw [← e, List.nodup_append] at hnd; exact hnd.1))
        have hfl : f.length ≤ 900 := by
          have := congrArg List.length hkf
          unfold akeys at this
          rw [List.length_map] at this
          omega
        simp_arith! [dd, pm, aput_new hnf]
        exact ⟨[_, _, _], rfl, d3 ++ [v], _, _, by rw [List.map_append (l₁ := d3), ← List.append_assoc, List.map_append (l₂ := List.map _ [v])]; rfl, by rw [List.append_assoc]; exact e3⟩
      · rintro vs S3 ⟨rfl, d3, a6, a7, rfl, e3⟩
        rw [List.append_nil] at e3
        subst e3
        simp_arith!
        refine ⟨[_, _, _, _], rfl, d2 ++ [f], _, _, _, by rw [hg2], by rw [List.append_assoc]; exact e2⟩
    · rintro vs S2 ⟨rfl, d2, a5, a6, a7, rfl, e2⟩
      rw [List.append_nil] at e2
      subst e2
      simp_arith!
      exact ⟨[_, _, _, _, _, _], rfl, dn ++ [n], _, _, _, _, _, by rw [hfd], by rw [List.append_assoc]; exact e⟩
  · rintro vs S1 ⟨rfl, dn, a3, a4, a5, a6, a7, rfl, e⟩
    rw [List.append_nil] at e
    subst e
    simp_arith!

/-! Sk40: pools, rooms of the laws k11 to k14. -/
open PySem PySem.Spec
open L2 (ixN atI)
theorem isort_perm (xs : List Int) : (isort xs).Perm xs := List.mergeSort_perm xs _
theorem isort_sorted (xs : List Int) : (isort xs).Pairwise (· ≤ ·) := by
  have := List.pairwise_mergeSort (le := fun a b : Int => decide (a ≤ b)) (fun a b c h1 h2 => by simp at *; omega) (fun a b => by simp; omega) xs
  exact this.imp fun h => by simpa using h
theorem isort_lt {xs : List Int} (h : xs.Nodup) : (isort xs).Pairwise (· < ·) := by
  have h1 := isort_sorted xs
  have h2 : (isort xs).Nodup := ((isort_perm xs).nodup_iff).mpr h
  exact h1.imp₂ (fun a b h3 h4 => by omega) h2
section
variable {T : Tab} {k : Nat} (hD : T.F "_law_draw" = some ⟨5, 2, drawC⟩)
include hD
theorem pool11_ok (hF : T.F "_law_pool" = some ⟨5, 2, L_pool_k11⟩) {S0 S : Sto} {n m : Nat} {many : Int} {Q : Op → Sto → Prop} (hd : Dk S0 S n m) (h0 : 0 ≤ many) (h1 : many ≤ 20)
    (q : ∀ (is : List Int) S', is.length = many.toNat → is.Pairwise (· < ·) → VB is → Dk S0 S' n m → Q (.fr (.lst (is.map .int))) S') : WF T (k + 2) "_law_pool" [.ref n, .int many] S Q := by
  refine wf_def hF rfl ?_
  show WSs T (k + 1) L_pool_k11 [.va (.ref n), .va (.int many), .no, .no, .no] S (retQ Q)
  have fin : ∀ (low : Int) S1, -1000000 ≤ low → low ≤ 980000 → Dk S0 S1 n m → WSs T (k + 1) (L_pool_k11.drop 2) [.va (.ref n), .va (.int many), .va (.int low), .no, .no] S1 (retQ Q) := fun low S1 b0 b1 d1 => by
    show WSs T (k + 1) [_, _, _] _ _ _
    simp_arith!
    rw [rng_ok (by omega) (by omega)]
    simp_arith!
    refine wforR [2, 3, 4] [.va (.int low), .ow (.lst []), .no] (fun j vs S' => ∃ (is : List Int) (low : Int) (a4 : Sl), vs = [.va (.int low), .ow (.lst (is.map .int)), a4] ∧ is.length = j ∧ is.Pairwise (· < ·) ∧ (∀ i ∈ is, -1000000 ≤ i ∧ i < low) ∧ -1000000 ≤ low ∧ low ≤ 980000 + 700 * (j : Int) ∧ Dk S0 S' n m) rfl ⟨[], low, _, rfl, rfl, List.Pairwise.nil, by simp, b0, by omega, d1⟩ ?_ ?_
    · rintro j vs S2 hj ⟨is, low, a4, rfl, hl, hp, hi, l0, l1, d2⟩
      simp_arith!
      refine drawK hD d2 (by decide) (by decide) fun x S3 x0 x1 d3 => ?_
      simp_arith!
      refine drawK hD d3 (by decide) (by decide) fun y S4 y0 y1 d4 => ?_
      simp_arith!
      refine drawK hD d4 (by decide) (by decide) fun z S5 z0 z1 d5 => ?_
      simp_arith!
      refine o_some z0 z1 fun d hd => ?_
      have hd : ∃ g : Int, d = .int g ∧ 0 ≤ g ∧ g < 700 := by
        simp only [List.mem_cons, List.not_mem_nil, or_false] at hd
        rcases hd with rfl | rfl | rfl
        · exact ⟨0, rfl, by decide, by decide⟩
        · exact ⟨x, rfl, x0, by omega⟩
        · exact ⟨y, rfl, y0, by omega⟩
      obtain ⟨g, rfl, g0, g1⟩ := hd
      simp_arith!
      refine ⟨[_, _, _], rfl, is ++ [low], _, _, by rw [List.map_append]; rfl, by rw [List.length_append, hl]; rfl, ?_, fun i hii => ?_, by omega, by omega, d5⟩
      · rw [List.pairwise_append]
        exact ⟨hp, List.pairwise_singleton _ _, fun a ha b hb => by rw [List.mem_singleton.mp hb]; exact (hi a ha).2⟩
      · rcases List.mem_append.mp hii with z | z
        · have := hi i z; omega
        · rw [List.mem_singleton.mp z]; omega
    · rintro vs S2 ⟨is, low, a4, rfl, hl, hp, hi, l0, l1, d2⟩
      simp_arith!
      exact q is S2 hl hp (fun i hii => by have := hi i hii; omega) d2
  show WSs T (k + 1) (_ :: _ :: L_pool_k11.drop 2) _ _ _
  simp_arith!
  refine drawK hD hd (by decide) (by decide) fun v S1 v0 v1 d1 => ?_
  simp_arith!
  refine drawK hD d1 (by decide) (by decide) fun x S2 x0 x1 d2 => ?_
  simp_arith!
  split
  · simp_arith!
    refine drawK hD d2 (by decide) (by decide) fun y S3 y0 y1 d3 => ?_
    simp_arith!
    exact fin (y - 1000000) S3 (by omega) (by omega) d3
  · simp_arith!
    exact fin (v - 4) S2 (by omega) (by omega) d2
structure Room11 (pool : List Int) (most : Nat) (r : List Int) : Prop where
  ne : r ≠ []
  le : r.length ≤ most
  srt : r.Pairwise (· < ·)
  sub : ∀ i ∈ r, i ∈ pool
theorem rooms11_ok (hF : T.F "_law_rooms" = some ⟨9, 4, L_rooms_k11⟩) {S0 S : Sto} {n m most : Nat} {ws : List Nm} {is : List Int} {Q : Op → Sto → Prop} (hd : Dk S0 S n m) (hw : ws.Nodup) (hl : ws.length ≤ 900) (h1 : 1 ≤ is.length) (h9 : is.length ≤ 900) (hn : is.Nodup) (h0 : 1 ≤ most) (h90 : most ≤ 900)
    (q : ∀ (ps : Rooms) S', akeys ps = ws → (∀ p ∈ ps, Room11 is most p.2) → Dk S0 S' n m → Q (.fr (roomsD ps)) S') :
    WF T (k + 2) "_law_rooms" [.ref n, .lst (ws.map strD), .lst (is.map .int), .int (most : Int)] S Q := by
  refine wf_def hF rfl ?_
  show WSs T (k + 1) L_rooms_k11 [.va (.ref n), .va (.lst (ws.map strD)), .va (.lst (is.map .int)), .va (.int (most : Int)), .no, .no, .no, .no, .no] S (retQ Q)
  unfold L_rooms_k11
  have sq : seqD (.lst (ws.map strD)) = some (ws.map strD) := rfl
  simp_arith! [sq, List.length_nil, List.all_nil]
  refine wforM (enc := strD) (xs := ws) [4, 5, 6, 7] [.ow (.dct []), .no, .no, .no] (fun r vs S' => ∃ (ps : Rooms) (a5 a6 a7 : Sl), vs = [.ow (roomsD ps), a5, a6, a7] ∧ akeys ps ++ r = ws ∧ (∀ p ∈ ps, Room11 is most p.2) ∧ Dk S0 S' n m) rfl ⟨[], _, _, _, rfl, rfl, by simp, hd⟩ ?_ ?_
  · rintro w r vs S1 ⟨ps, a5, a6, a7, rfl, e, hp, d1⟩
    have hnew : w ∉ akeys ps := by
      rw [← e, List.nodup_append] at hw
      exact fun z => hw.2.2 w z w List.mem_cons_self rfl
    have hpn : (akeys ps).Nodup := by
      rw [← e, List.nodup_append] at hw
      exact hw.1
    have hpl : ps.length < 900 := by
      have := congrArg List.length e
      unfold akeys at this
      rw [List.length_append, List.length_map, List.length_cons] at this
      omega
    have pm : ∀ r : List Int, putC (tupI r) (roomsD ps) (strD w) = fun Q => ps.length < sizeLine ∧ Q (roomsD (aput ps w r)) := fun r => funext fun Q => propext (p_mapS hpn)
    simp_arith!
    refine drawK hD d1 (by split <;> omega) (by split <;> omega) fun x S2 x0 x1 d2 => ?_
    have hx : 1 + x ≤ most ∧ 1 + x ≤ is.length := by split at x1 <;> omega
    simp_arith!
    rw [rng_ok (by omega) (by omega)]
    simp_arith!
    refine wlcS (enc := fun (k : Nat) => D.int (0 + k)) (xs := List.range (1 + x).toNat) [6] [.ow (.lst (is.map .int))] (fun r acc vs S' => ∃ us left : List Int, acc = us.map .int ∧ vs = [.ow (.lst (left.map .int))] ∧ (us ++ left).Perm is ∧ us.length + r.length = (1 + x).toNat ∧ Dk S0 S' n m) rfl ⟨[], is, rfl, rfl, .refl _, by simp, d2⟩ ?_ ?_
    · rintro j r acc vs S3 ⟨us, left, rfl, rfl, p, hul, d3⟩
      have hpl' := p.length_eq
      rw [List.length_append] at hpl'
      rw [List.length_cons] at hul
      simp_arith!
      refine drawK hD d3 (by omega) (by omega) fun y S4 y0 y1 d4 => ?_
      simp_arith!
      refine o_popAt y0 y1 (by omega) fun h => ?_
      simp_arith!
      refine ⟨[_], rfl, us ++ [left[y.toNat]], _, by rw [List.map_append]; rfl, rfl, ?_, by rw [List.length_append, List.length_singleton]; omega, d4⟩
      rw [List.append_assoc]
      exact ((erase_permT left y.toNat h).append_left us).trans p
    · rintro acc vs S3 ⟨us, left, rfl, rfl, p, hul, d3⟩
      rw [List.length_nil, Nat.add_zero] at hul
      have hun : us.Nodup := by
        have := (p.nodup_iff).mpr hn
        rw [List.nodup_append] at this
        exact this.1
      have tt : (D.tup ((isort us).map .int)) = tupI (isort us) := rfl
      simp_arith! [tt, pm, aput_new hnew]
      refine ⟨[_, _, _, _], rfl, ps ++ [(w, isort us)], _, _, _, rfl, by unfold akeys at e ⊢; rw [List.map_append, List.append_assoc]; exact e, fun p' hp' => ?_, d3⟩
      rcases List.mem_append.mp hp' with z | z
      · exact hp p' z
      · rw [List.mem_singleton.mp z]
        have hpm := isort_perm us
        refine ⟨fun z => ?_, ?_, isort_lt hun, fun i hi => p.mem_iff.mp (List.mem_append_left _ (hpm.mem_iff.mp hi))⟩
        · have := hpm.length_eq
          have z : isort us = [] := z
          rw [z, List.length_nil] at this
          omega
        · have := hpm.length_eq
          show (isort us).length ≤ most
          omega
  · rintro vs S1 ⟨ps, a5, a6, a7, rfl, e, hp, d1⟩
    rw [List.append_nil] at e
    simp_arith!
    exact q ps S1 e hp d1
end

/-! Sk41: _law_told of k11 to k13; the sort many. -/
open PySem PySem.Spec
open L2 (ixN atI)
theorem isaB {t : String} {d : D} {b : Bool} {Q : Op → Prop} (h : isaD t d = some b) : ob (bfD (.isa t) d) Q ↔ Q (.fz (.bl b)) := by
  show ob ((isaD t d).map _) Q ↔ _
  rw [h, Option.map_some, ob_some]
theorem isa_bb {b : Bool} : isaD "bool" (.bl b) = some true := by kernel_rfl
theorem WF.elim {T : Tab} {k : Nat} {f : Str} {ds : List D} {S : Sto} {Q : Op → Sto → Prop} {o : Op} (h : WF T k f ds S fun x S' => x = o ∧ S' = S) (q : Q o S) : WF T k f ds S Q := h.mono fun x S' ⟨e1, e2⟩ => by
  rw [e1, e2]
  exact q
/-- an answer that leaves the store -/
abbrev Pure (T : Tab) (k : Nat) (f : Str) (ds : List D) (S : Sto) (o : Op) : Prop := WF T k f ds S fun x S' => x = o ∧ S' = S
theorem told_ok {T : Tab} {k : Nat} (hF : T.F "_law_told" = some ⟨9, 4, L_told⟩) (hFi : T.F "_law_fillings" = some ⟨8, 2, L_fillings⟩) {S : Sto} {t : Nat} {c mk mb : Str} {fs : List (Str × D)} {w : D} {ns : List Nm} {ps : Rooms} {kp : Fil → Bool} {a b : Bool} {Q : Op → Sto → Prop}
    (ht : S[t]? = some (.ins c fs)) (h1 : fs.lookup ("may_keep" : Str) = none) (h2 : fs.lookup ("may_break" : Str) = none) (m1 : T.M c "may_keep" = some mk) (m2 : T.M c "may_break" = some mb)
    (hnd : ns.Nodup) (hl : ns.length ≤ 900) (hpn : (akeys ps).Nodup) (hr : ∀ n ∈ ns, ∃ r, aget ps n = some r ∧ r ≠ []) (hb : nfills (cellsBy ps ns) ≤ 100000) (hz : 100000 < sizeLine)
    (hk : ∀ f, Fits (cellsBy ps ns) f → Pure T (k + 1) "_law_kept" [w, filD f] S (.fz (.bl (kp f))))
    (ha : Pure T (k + 1) mk [.ref t, roomsD ps] S (.fz (.bl a))) (hbb : Pure T (k + 1) mb [.ref t, roomsD ps] S (.fz (.bl b)))
    (ia : a = true ↔ ∃ f, Fits (cellsBy ps ns) f ∧ kp f = true) (ib : b = true ↔ ∃ f, Fits (cellsBy ps ns) f ∧ kp f = false) (q : Q (.fz (.bl true)) S) : WF T (k + 2) "_law_told" [.ref t, w, .lst (ns.map strD), roomsD ps] S Q := by
  refine wf_def hF rfl ?_
  show WSs T (k + 1) L_told [.va (.ref t), .va w, .va (.lst (ns.map strD)), .va (roomsD ps), .no, .no, .no, .no, .no] S (retQ Q)
  unfold L_told
  simp_arith!
  refine fillings_ok (k := k) hFi rfl (fun _ _ => ⟨rfl, rfl⟩) hnd hl hr hb hz ?_
  have sq : ∀ xs : List Fil, seqD (.lst (xs.map filD)) = some (xs.map filD) := fun _ => rfl
  simp_arith! [sq]
  have hfl : (fills (cellsBy ps ns)).length ≤ sizeLine := by rw [fills_len]; omega
  refine wlcN (enc := filD) (xs := fills (cellsBy ps ns)) (fun f => .bl (kp f)) hfl (fun f hf => ?_) ?_
  · simp_arith!
    refine (hk f (mem_fills.mp hf)).elim ?_
    simp_arith!
  have mm : (fills (cellsBy ps ns)).map (fun f => D.bl (kp f)) = ((fills (cellsBy ps ns)).map kp).map .bl := by rw [List.map_map]; rfl
  have dd : bfD .dict (roomsD ps) = some (.fr (roomsD ps)) := rfl
  rw [mm]
  have at1 : isAt "may_keep" = false := by decide
  have at2 : isAt "may_break" = false := by decide
  simp_arith! [dd, asIns_of ht, h1, h2, m1, m2, at1, at2]
  refine ha.elim ?_
  simp_arith! [asIns_of ht, h1, h2, m1, m2, at1, at2]
  refine hbb.elim ?_
  simp_arith! [seqD]
  have l2 : [D.bl a, .bl b] = [a, b].map .bl := rfl
  rw [l2]
  refine wforM (enc := D.bl) (xs := [a, b]) [8] [.no] (fun r vs S' => S' = S ∧ ∃ a8 : Sl, vs = [a8]) rfl ⟨rfl, _, rfl⟩ ?_ ?_
  · rintro x r vs S1 ⟨rfl, a8, rfl⟩
    simp_arith! [isaB isa_bb]
    exact ⟨[_], rfl, _, rfl⟩
  · rintro vs S1 ⟨rfl, a8, rfl⟩
    simp_arith! [in_bls]
    have e : cmpD .eq (.lst ([a, b].map .bl)) (.lst [.bl (decide (true ∈ (fills (cellsBy ps ns)).map kp)), .bl (decide (false ∈ (fills (cellsBy ps ns)).map kp))]) = some true := by
      have := eq_bls (xs := [a, b]) (ys := [decide (true ∈ (fills (cellsBy ps ns)).map kp), decide (false ∈ (fills (cellsBy ps ns)).map kp)])
      rw [show ∀ x y : Bool, D.lst [.bl x, .bl y] = .lst ([x, y].map .bl) from fun _ _ => rfl, this]
      congr 1
      refine decide_eq_true ?_
      have ea : a = decide (true ∈ (fills (cellsBy ps ns)).map kp) := bool_iff (ia.trans (by simp only [List.mem_map, mem_fills]))
      have eb : b = decide (false ∈ (fills (cellsBy ps ns)).map kp) := bool_iff (ib.trans (by simp only [List.mem_map, mem_fills]))
      rw [← ea, ← eb]
    simp_arith! [e, eq_rooms hpn]
/-! ### so many cells -/
def cntF (vs : List Int) (f : Fil) : Nat := (f.filter fun x => decide (x.2 ∈ vs)).length
def leastN (vs : List Int) (cs : Rooms) : Nat := (cs.filter fun c => c.2.all fun v => decide (v ∈ vs)).length
def mostN (vs : List Int) (cs : Rooms) : Nat := (cs.filter fun c => c.2.any fun v => decide (v ∈ vs)).length
theorem cnt_cons {vs : List Int} {x : Nm × Int} {f : Fil} : cntF vs (x :: f) = (if x.2 ∈ vs then 1 else 0) + cntF vs f := by
  unfold cntF
  rw [List.filter_cons]
  by_cases h : x.2 ∈ vs
  · rw [if_pos (decide_eq_true h), if_pos h, List.length_cons]; omega
  · rw [if_neg (by simpa using h), if_neg h]; omega
theorem least_cons {vs : List Int} {c : Nm × List Int} {cs : Rooms} : leastN vs (c :: cs) = (if ∀ v ∈ c.2, v ∈ vs then 1 else 0) + leastN vs cs := by
  unfold leastN
  rw [List.filter_cons]
  by_cases h : ∀ v ∈ c.2, v ∈ vs
  · rw [if_pos (by rw [List.all_eq_true]; exact fun v hv => decide_eq_true (h v hv)), if_pos h, List.length_cons]; omega
  · rw [if_neg (by rw [List.all_eq_true]; exact fun z => h fun v hv => of_decide_eq_true (z v hv)), if_neg h]; omega
theorem most_cons {vs : List Int} {c : Nm × List Int} {cs : Rooms} : mostN vs (c :: cs) = (if ∃ v ∈ c.2, v ∈ vs then 1 else 0) + mostN vs cs := by
  unfold mostN
  rw [List.filter_cons]
  by_cases h : ∃ v ∈ c.2, v ∈ vs
  · rw [if_pos (by rw [List.any_eq_true]; exact h.imp fun v z => ⟨z.1, decide_eq_true z.2⟩), if_pos h, List.length_cons]; omega
  · rw [if_neg (by rw [List.any_eq_true]; exact fun z => h (z.imp fun v z => ⟨z.1, of_decide_eq_true z.2⟩)), if_neg h]; omega
theorem cnt_within {vs : List Int} {cs : Rooms} {f : Fil} (h : Fits cs f) : leastN vs cs ≤ cntF vs f ∧ cntF vs f ≤ mostN vs cs := by
  induction h with
  | nil => exact ⟨Nat.le_refl _, Nat.le_refl _⟩
  | @cons c x cs f hx _ ih =>
    rw [cnt_cons, least_cons, most_cons]
    by_cases z : x.2 ∈ vs
    · rw [if_pos z, show (if ∃ v ∈ c.2, v ∈ vs then 1 else 0 : Nat) = 1 from if_pos ⟨_, hx.2, z⟩]
      split <;> omega
    · rw [if_neg z, show (if ∀ v ∈ c.2, v ∈ vs then 1 else 0 : Nat) = 0 from if_neg fun q => z (q _ hx.2)]
      split <;> omega
theorem cnt_all {vs : List Int} {cs : Rooms} (hne : ∀ c ∈ cs, c.2 ≠ []) : ∀ {m : Nat}, leastN vs cs ≤ m → m ≤ mostN vs cs → ∃ f, Fits cs f ∧ cntF vs f = m := by
  induction cs with
  | nil =>
    intro m h1 h2
    have h2 : m ≤ 0 := h2
    exact ⟨[], .nil, by show 0 = m; omega⟩
  | cons c cs ih =>
    intro m h1 h2
    rw [least_cons] at h1
    rw [most_cons] at h2
    have ih := @ih fun c hc => hne c (List.mem_cons_of_mem _ hc)
    have hc := hne c List.mem_cons_self
    obtain ⟨v0, hv0⟩ := List.exists_mem_of_ne_nil _ hc
    by_cases ha : ∀ v ∈ c.2, v ∈ vs
    · rw [if_pos ha] at h1
      rw [if_pos ⟨v0, hv0, ha v0 hv0⟩] at h2
      obtain ⟨f, hf, e⟩ := ih (m := m - 1) (by omega) (by omega)
      exact ⟨(c.1, v0) :: f, .cons ⟨rfl, hv0⟩ hf, by rw [cnt_cons, if_pos (ha v0 hv0), e]; omega⟩
    · rw [if_neg ha] at h1
      have hout : ∃ v ∈ c.2, v ∉ vs := Classical.byContradiction fun z => ha fun v hv => Classical.byContradiction fun q => z ⟨v, hv, q⟩
      obtain ⟨v1, hv1, ho⟩ := hout
      by_cases he : ∃ v ∈ c.2, v ∈ vs
      · rw [if_pos he] at h2
        obtain ⟨v2, hv2, hi⟩ := he
        by_cases hm : m ≤ mostN vs cs
        · obtain ⟨f, hf, e⟩ := ih (m := m) (by omega) hm
          exact ⟨(c.1, v1) :: f, .cons ⟨rfl, hv1⟩ hf, by rw [cnt_cons, if_neg ho, e]; omega⟩
        · have hlm : leastN vs cs ≤ mostN vs cs := by
            unfold leastN mostN
            refine (List.Sublist.length_le ?_)
            have : ∀ l : Rooms, (∀ c ∈ l, c.2 ≠ []) → (l.filter fun c => c.2.all fun v => decide (v ∈ vs)).Sublist (l.filter fun c => c.2.any fun v => decide (v ∈ vs)) := by
              intro l hl
              induction l with
              | nil => exact .refl _
              | cons d l ihl =>
                have ihl := ihl fun c hc => hl c (List.mem_cons_of_mem _ hc)
                rw [List.filter_cons, List.filter_cons]
                by_cases q1 : (d.2.all fun v => decide (v ∈ vs)) = true
                · obtain ⟨y, hy⟩ := List.exists_mem_of_ne_nil _ (hl d List.mem_cons_self)
                  rw [if_pos q1, if_pos (List.any_eq_true.mpr ⟨y, hy, List.all_eq_true.mp q1 y hy⟩)]
                  exact ihl.cons₂ d
                · rw [if_neg q1]
                  split
                  · exact ihl.cons d
                  · exact ihl
            exact this cs fun c hc => hne c (List.mem_cons_of_mem _ hc)
          obtain ⟨f, hf, e⟩ := ih (m := m - 1) (by omega) (by omega)
          exact ⟨(c.1, v2) :: f, .cons ⟨rfl, hv2⟩ hf, by rw [cnt_cons, if_pos hi, e]; omega⟩
      · rw [if_neg he] at h2
        obtain ⟨f, hf, e⟩ := ih (m := m) (by omega) (by omega)
        exact ⟨(c.1, v1) :: f, .cons ⟨rfl, hv1⟩ hf, by rw [cnt_cons, if_neg ho, e]; omega⟩
/-- the object of a wish -/
structure ManyT (T : Tab) : Prop where
  F1 : T.F "Many.counts" = some ⟨12, 2, M_Many_counts⟩
  F2 : T.F "Many.may_keep" = some ⟨4, 2, M_Many_may_keep⟩
  F3 : T.F "Many.may_break" = some ⟨4, 2, M_Many_may_break⟩
  M1 : T.M "Many" "counts" = some ("Many.counts" : Str)
  A : T.M "Many" (atName "wish") = some ("wish" : Str)
section
variable {T : Tab} {k : Nat} (hT : ManyT T) {S : Sto} {t : Nat} {vs : List Int} {ns : List Nm} {lo hi : Int} {ps : Rooms} (ht : S[t]? = some (.ins "Many" [("wish", (Wish.many vs ns lo hi).d)])) (hl : ns.length ≤ 900) (hr : ∀ n ∈ ns, ∃ r, aget ps n = some r ∧ r ≠ [] ∧ r.length ≤ 900)
include hT ht hl hr
theorem counts_ok : Pure T (k + 1) "Many.counts" [.ref t, roomsD ps] S (.fz (.tup [.int (leastN vs (cellsBy ps ns)), .int (mostN vs (cellsBy ps ns))])) := by
  refine wf_def hT.F1 rfl ?_
  show WSs T k M_Many_counts [.va (.ref t), .va (roomsD ps), .no, .no, .no, .no, .no, .no, .no, .no, .no, .no] S (retQ _)
  unfold M_Many_counts
  have lk : ∀ d : D, List.lookup ("wish" : Str) [(("wish" : Str), d)] = some d := fun _ => rfl
  have wd : (Wish.many vs ns lo hi).d = .tup [.str "many", tupI vs, tupS ns, .int lo, .int hi] := rfl
  have sq : seqD (tupS ns) = some (ns.map strD) := rfl
  simp_arith! [asIns_of ht, hT.A, lk, wd, sq]
  refine wforM (enc := strD) (xs := ns) [7, 8, 9, 10] [.va (.int 0), .va (.int 0), .no, .no] (fun r vs' S' => S' = S ∧ ∃ (dn : List Nm) (a9 a10 : Sl), vs' = [.va (.int (leastN vs (cellsBy ps dn))), .va (.int (mostN vs (cellsBy ps dn))), a9, a10] ∧ dn ++ r = ns) rfl ⟨rfl, [], _, _, rfl, rfl⟩ ?_ ?_
  · rintro n r vs' S1 ⟨rfl, dn, a9, a10, rfl, e⟩
    obtain ⟨rm, er, hne, hrl⟩ := hr n (by rw [← e]; simp)
    have sq2 : seqD (tupI rm) = some (rm.map .int) := rfl
    have e' : (dn ++ [n]) ++ r = ns := by rw [List.append_assoc]; exact e
    have hcd : cellsBy ps (dn ++ [n]) = cellsBy ps dn ++ [(n, rm)] := by
      unfold cellsBy
      rw [List.map_append, List.map_singleton, er]
      rfl
    have hL : (leastN vs (cellsBy ps (dn ++ [n])) : Int) = leastN vs (cellsBy ps dn) + if (rm.filter fun v => decide (v ∈ vs)).length = rm.length then 1 else 0 := by
      rw [hcd]
      unfold leastN
      rw [List.filter_append, List.length_append, List.filter_cons, List.filter_nil]
      by_cases h : (rm.filter fun v => decide (v ∈ vs)).length = rm.length
      · have : rm.all (fun v => decide (v ∈ vs)) = true := by
          rw [List.all_eq_true]
          exact fun v hv => by
            have := (List.length_filter_eq_length_iff).mp h v hv
            exact this
        rw [if_pos this, if_pos h]
        simp
      · have : ¬ rm.all (fun v => decide (v ∈ vs)) = true := fun z => h ((List.length_filter_eq_length_iff).mpr fun v hv => List.all_eq_true.mp z v hv)
        rw [if_neg this, if_neg h]
        simp
    have hM : (mostN vs (cellsBy ps (dn ++ [n])) : Int) = mostN vs (cellsBy ps dn) + if 0 < (rm.filter fun v => decide (v ∈ vs)).length then 1 else 0 := by
      rw [hcd]
      unfold mostN
      rw [List.filter_append, List.length_append, List.filter_cons, List.filter_nil]
      by_cases h : 0 < (rm.filter fun v => decide (v ∈ vs)).length
      · have : rm.any (fun v => decide (v ∈ vs)) = true := by
          obtain ⟨v, hv⟩ := List.exists_mem_of_length_pos h
          rw [List.mem_filter] at hv
          exact List.any_eq_true.mpr ⟨v, hv.1, hv.2⟩
        rw [if_pos this, if_pos h]
        simp
      · have : ¬ rm.any (fun v => decide (v ∈ vs)) = true := fun z => by
          obtain ⟨v, hv, hq⟩ := List.any_eq_true.mp z
          exact h (List.length_pos_of_mem (List.mem_filter.mpr ⟨hv, hq⟩))
        rw [if_neg this, if_neg h]
        simp
    simp_arith! [er, sq2]
    refine wlcP (enc := D.int) (xs := rm) (fun v => decide (v ∈ vs)) D.int (by have := line1m; omega) (fun v hv => ?_) ?_
    · by_cases c : v ∈ vs
      · simp_arith! [c, decide_true]
      · simp_arith! [c, decide_false]
    simp_arith!
    have go : ∀ x y : Int, ∀ hx : x = leastN vs (cellsBy ps (dn ++ [n])), ∀ hy : y = mostN vs (cellsBy ps (dn ++ [n])), x = x := fun _ _ _ _ => rfl
    split
    · rename_i c1
      have c1' : 0 < (rm.filter fun v => decide (v ∈ vs)).length := by omega
      rw [if_pos c1'] at hM
      simp_arith! [er, augD]
      split
      · rename_i c2
        have c2' : (rm.filter fun v => decide (v ∈ vs)).length = rm.length := by omega
        rw [if_pos c2'] at hL
        simp_arith!
        exact ⟨[_, _, _, _], rfl, dn ++ [n], _, _, by rw [hL, hM], e'⟩
      · rename_i c2
        rw [if_neg (fun z => c2 (by omega))] at hL
        rw [Int.add_zero] at hL
        simp_arith!
        exact ⟨[_, _, _, _], rfl, dn ++ [n], _, _, by rw [hL, hM], e'⟩
    · rename_i c1
      rw [if_neg (fun z => c1 (by omega))] at hM
      rw [Int.add_zero] at hM
      simp_arith! [er, augD]
      split
      · rename_i c2
        have c2' : (rm.filter fun v => decide (v ∈ vs)).length = rm.length := by omega
        rw [if_pos c2'] at hL
        simp_arith!
        exact ⟨[_, _, _, _], rfl, dn ++ [n], _, _, by rw [hL, hM], e'⟩
      · rename_i c2
        rw [if_neg (fun z => c2 (by omega))] at hL
        rw [Int.add_zero] at hL
        simp_arith!
        exact ⟨[_, _, _, _], rfl, dn ++ [n], _, _, by rw [hL, hM], e'⟩
  · rintro vs' S1 ⟨rfl, dn, a9, a10, rfl, e⟩
    rw [List.append_nil] at e
    subst e
    simp_arith!
theorem many_keep_ok : Pure T (k + 2) "Many.may_keep" [.ref t, roomsD ps] S (.fz (.bl (decide (max (leastN vs (cellsBy ps ns) : Int) lo ≤ min (mostN vs (cellsBy ps ns) : Int) hi)))) := by
  refine wf_def hT.F2 rfl ?_
  show WSs T (k + 1) M_Many_may_keep [.va (.ref t), .va (roomsD ps), .no, .no] S (retQ _)
  unfold M_Many_may_keep
  have lk : ∀ d : D, List.lookup ("wish" : Str) [(("wish" : Str), d)] = some d := fun _ => rfl
  have lk2 : ∀ d : D, List.lookup ("counts" : Str) [(("wish" : Str), d)] = none := fun _ => rfl
  have wd : (Wish.many vs ns lo hi).d = .tup [.str "many", tupI vs, tupS ns, .int lo, .int hi] := rfl
  have at1 : isAt "counts" = false := by decide
  simp_arith! [asIns_of ht, hT.M1, lk2, at1]
  refine (counts_ok hT ht hl hr).elim ?_
  simp_arith! [asIns_of ht, hT.A, lk, wd]
  have : decide ((if lo > (leastN vs (cellsBy ps ns) : Int) then lo else leastN vs (cellsBy ps ns)) ≤ (if hi < (mostN vs (cellsBy ps ns) : Int) then hi else mostN vs (cellsBy ps ns))) = decide (max (leastN vs (cellsBy ps ns) : Int) lo ≤ min (mostN vs (cellsBy ps ns) : Int) hi) := decide_eq_decide.mpr (by split <;> split <;> omega)
  rw [this]
theorem many_break_ok : Pure T (k + 2) "Many.may_break" [.ref t, roomsD ps] S (.fz (.bl (decide ((leastN vs (cellsBy ps ns) : Int) < lo ∨ hi < mostN vs (cellsBy ps ns))))) := by
  refine wf_def hT.F3 rfl ?_
  show WSs T (k + 1) M_Many_may_break [.va (.ref t), .va (roomsD ps), .no, .no] S (retQ _)
  unfold M_Many_may_break
  have lk : ∀ d : D, List.lookup ("wish" : Str) [(("wish" : Str), d)] = some d := fun _ => rfl
  have lk2 : ∀ d : D, List.lookup ("counts" : Str) [(("wish" : Str), d)] = none := fun _ => rfl
  have wd : (Wish.many vs ns lo hi).d = .tup [.str "many", tupI vs, tupS ns, .int lo, .int hi] := rfl
  have at1 : isAt "counts" = false := by decide
  simp_arith! [asIns_of ht, hT.M1, lk2, at1]
  refine (counts_ok hT ht hl hr).elim ?_
  simp_arith! [asIns_of ht, hT.A, lk, wd]
  split
  · rename_i h
    simp_arith!
    rw [decide_eq_true (Or.inl h)]
  · rename_i h
    simp_arith!
    rw [decide_eq_decide.mpr (show hi < (mostN vs (cellsBy ps ns) : Int) ↔ (leastN vs (cellsBy ps ns) : Int) < lo ∨ hi < mostN vs (cellsBy ps ns) from ⟨.inr, fun z => z.elim (fun z => (h z).elim) id⟩)]
end

/-! Sk42: starts and ends of laws; slices; objects made; a wish of many. -/
open PySem PySem.Spec
open L2 (ixN atI)
theorem law_of {T : Tab} {k : Nat} (h : ∀ ns : List Int, ns.length ≤ 63 → WF T k "law" [.lst (ns.map .int)] [] fun o S => o = .fz (.bl true)) : Law T k := by
  intro ns hl
  obtain ⟨⟨o, S'⟩, e, h⟩ := h ns hl
  have h : o = .fz (.bl true) := h
  rw [h] at e
  exact ⟨S', e⟩
theorem dealS {T : Tab} {k : Nat} (hF : T.F "_law_deal" = some ⟨5, 2, dealC⟩) {ns : List Int} (hl : ns.length ≤ 63) {v : Int} (h0 : 0 ≤ v ∧ v < 1000000) {Q : Op → Sto → Prop}
    (q : ∀ d S, Dl (S ++ [.da d]) 1 0 → S.length = 1 → Q (.fr d) S) : WF T (k + 1) "_law_deal" [.lst (ns.map .int), .int v] [] Q := by
  refine deal_ok hF hl h0 fun mixed seed left hs hp hll => ?_
  exact q _ _ ⟨mixed, seed, 0, left, by decide, rfl, rfl, hs, by decide, hp, hll⟩ rfl
theorem Dl.app {S : Sto} {n m : Nat} (h : Dl S n m) (o : O) : Dl (S ++ [o]) n m := by
  obtain ⟨mixed, seed, number, left, e, hn, hm, s0, n0, l0, ll⟩ := h
  have g : ∀ {i : Nat} {x : O}, S[i]? = some x → (S ++ [o])[i]? = some x := fun hx => by
    rw [List.getElem?_append_left (List.getElem?_eq_some_iff.mp hx).1, hx]
  exact ⟨mixed, seed, number, left, e, g hn, g hm, s0, n0, l0, ll⟩
/-- another thing's state is changed -/
theorem Dl.set {S : Sto} {n m t : Nat} (h : Dl S n m) (h1 : t ≠ n) (h2 : t ≠ m) (o : O) : Dl (S.set t o) n m := by
  obtain ⟨mixed, seed, number, left, e, hn, hm, s0, n0, l0, ll⟩ := h
  exact ⟨mixed, seed, number, left, e, by rw [List.getElem?_set_ne h1]; exact hn, by rw [List.getElem?_set_ne h2]; exact hm, s0, n0, l0, ll⟩
theorem Dk.app {S0 S : Sto} {n m : Nat} (h : Dk S0 S n m) (o : O) : Dk (S ++ [o]) (S ++ [o]) n m := .mk (h.1.app o)
theorem Dk.get {S0 S : Sto} {n m j : Nat} {o : O} (h : Dk S0 S n m) (h0 : S0[j]? = some o) (h1 : j ≠ n) (h2 : j ≠ m) : S[j]? = some o := (h.2.2 j h1 h2).trans h0
theorem Dk.len {S0 S : Sto} {n m : Nat} (h : Dk S0 S n m) : S.length = S0.length := h.2.1
theorem Dl.lt {S : Sto} {n m : Nat} (h : Dl S n m) : n < S.length ∧ m < S.length := by
  obtain ⟨mixed, seed, number, left, e, hn, hm, s0, n0, l0, ll⟩ := h
  exact ⟨(List.getElem?_eq_some_iff.mp hn).1, (List.getElem?_eq_some_iff.mp hm).1⟩
/-! ### slices -/
theorem cut_lo {ds : List D} {i : Int} (h : 0 ≤ i) : cutD ds (some i) none = ds.drop i.toNat := by
  obtain ⟨p, rfl⟩ : ∃ p : Nat, i = p := ⟨i.toNat, by omega⟩
  unfold cutD
  rw [HT.sIx_nat, HT.sIx_none, Int.toNat_natCast]
  by_cases g : p ≤ ds.length
  · rw [Nat.min_eq_left g]
    exact List.take_of_length_le (by rw [List.length_drop]; omega)
  · rw [Nat.min_eq_right (by omega), List.drop_eq_nil_of_le (by omega), List.drop_eq_nil_of_le (by omega), List.take_nil]
theorem cut_hi {ds : List D} {i : Int} (h : 0 ≤ i) : cutD ds none (some i) = ds.take i.toNat := by
  obtain ⟨p, rfl⟩ : ∃ p : Nat, i = p := ⟨i.toNat, by omega⟩
  have := slc_lst (ds := ds) (p := p)
  have e : some (Op.fr (.lst (cutD ds none (some (p : Int))))) = some (Op.fr (.lst (ds.take p))) := this
  injection e with e
  injection e with e
  injection e with e
theorem cut_m1 {ds : List D} : cutD ds none (some (-1)) = ds.dropLast := by
  have e : HT.sIx ds.length ds.length (some (-1)) = ds.length - 1 := by
    show (if (-1 : Int) < 0 then ((-1 : Int) + (ds.length : Int)).toNat else min (-1 : Int).toNat ds.length) = _
    rw [if_pos (by decide)]
    omega
  unfold cutD
  rw [e, HT.sIx_none, List.drop_zero, Nat.sub_zero, List.dropLast_eq_take]
theorem sl_lo1 {α : Type} {f : α → D} {xs : List α} {Q : Op → Prop} : ob (slcD (.lst (xs.map f)) (some 1) none) Q ↔ Q (.fr (.lst (xs.tail.map f))) := by
  show ob (some (Op.fr (.lst (cutD (xs.map f) (some 1) none)))) Q ↔ _
  rw [ob_some, cut_lo (by decide), ← List.map_drop, ← List.drop_one]
  rfl
theorem sl_m1 {α : Type} {f : α → D} {xs : List α} {Q : Op → Prop} : ob (slcD (.lst (xs.map f)) none (some (-1))) Q ↔ Q (.fr (.lst (xs.dropLast.map f))) := by
  show ob (some (Op.fr (.lst (cutD (xs.map f) none (some (-1)))))) Q ↔ _
  rw [ob_some, cut_m1, List.map_dropLast]
theorem sl_hiT {w : List Int} {i : Int} (h : 0 ≤ i) : slcD (tupI w) none (some i) = some (.fz (tupI (w.take i.toNat))) := by
  show some (Op.fz (.tup (cutD (w.map .int) none (some i)))) = _
  rw [cut_hi h, ← List.map_take]
  rfl
theorem sl_loT {w : List Int} {i : Int} (h : 0 ≤ i) : slcD (tupI w) (some i) none = some (.fz (tupI (w.drop i.toNat))) := by
  show some (Op.fz (.tup (cutD (w.map .int) (some i) none))) = _
  rw [cut_lo h, ← List.map_drop]
  rfl
theorem o_addTI {a b : List Int} {Q : Op → Prop} : ob (bopD .add (tupI a) (tupI b)) Q ↔ a.length + b.length ≤ sizeLine ∧ Q (.fz (tupI (a ++ b))) := by
  refine o_addT.trans ?_
  rw [List.length_map, List.length_map, ← List.map_append]
  exact Iff.rfl
theorem o_addTS {a b : List Nm} {Q : Op → Prop} : ob (bopD .add (tupS a) (tupS b)) Q ↔ a.length + b.length ≤ sizeLine ∧ Q (.fz (tupS (a ++ b))) := by
  refine o_addT.trans ?_
  rw [List.length_map, List.length_map, ← List.map_append]
  exact Iff.rfl
/-! ### objects -/
/-- an object whose making keeps the wish alone -/
theorem newWish {T : Tab} {k : Nat} {c i a : Str} (hN : T.F (newName c) = some ⟨1, 1, [.mk c i]⟩) (hI : T.F i = some ⟨2, 2, [.setA (.var 0) "wish" (.var 1)]⟩) (hA : T.M c (atName "wish") = some a) {S : Sto} {w : D} {Q : Op → Sto → Prop}
    (q : Q (.fz (.ref S.length)) (S ++ [.ins c [("wish", w)]])) : WF T (k + 2) (newName c) [w] S Q := by
  refine wf_new hN rfl (wf_def hI rfl ?_)
  show WSs T k [_] [.va (.ref S.length), .va w] _ _
  have g : (S ++ [O.ins c []])[S.length]? = some (.ins c []) := by
    rw [List.getElem?_append_right (Nat.le_refl _), Nat.sub_self]
    rfl
  have e : (S ++ [O.ins c []]).set S.length (.ins c (putFD "wish" w [])) = S ++ [.ins c [("wish", w)]] := by
    rw [List.set_append_right _ _ (Nat.le_refl _), Nat.sub_self]
    rfl
  simp_arith! [asIns_of g, hA, List.length_nil, e]
/-! ### numbers of fillings -/
theorem foldl_mul_le {b : Nat} : ∀ {xs : List Nat} {a : Nat}, (∀ x ∈ xs, x ≤ b) → xs.foldl (· * ·) a ≤ a * b ^ xs.length
  | [], a, _ => by simp
  | x :: r, a, h => by
    have := foldl_mul_le (xs := r) (a := a * x) fun y hy => h y (List.mem_cons_of_mem _ hy)
    refine Nat.le_trans this ?_
    rw [List.length_cons, Nat.pow_succ, Nat.mul_comm (b ^ r.length) b, ← Nat.mul_assoc]
    exact Nat.mul_le_mul_right _ (Nat.mul_le_mul_left _ (h x List.mem_cons_self))
theorem nfills_le {b n : Nat} {cs : Rooms} (h : ∀ c ∈ cs, c.2.length ≤ b) (hn : cs.length ≤ n) (hb : 1 ≤ b) : nfills cs ≤ b ^ n := by
  unfold nfills
  refine Nat.le_trans (foldl_mul_le (b := b) fun x hx => ?_) ?_
  · obtain ⟨c, hc, rfl⟩ := List.mem_map.mp hx
    exact h c hc
  · rw [Nat.one_mul, List.length_map]
    exact Nat.pow_le_pow_right hb hn
theorem line100k : 100000 < sizeLine := by decide
theorem fits_some {cs : Rooms} (h : ∀ c ∈ cs, c.2 ≠ []) : ∃ f, Fits cs f := by
  induction cs with
  | nil => exact ⟨[], .nil⟩
  | cons c cs ih =>
    obtain ⟨f, hf⟩ := ih fun x hx => h x (List.mem_cons_of_mem _ hx)
    obtain ⟨v, hv⟩ := List.exists_mem_of_ne_nil _ (h c List.mem_cons_self)
    exact ⟨(c.1, v) :: f, .cons ⟨rfl, hv⟩ hf⟩
/-- the names' values in a filling -/
theorem fits_cnt {ps : Rooms} {ns : List Nm} {f : Fil} (h : Fits (cellsBy ps ns) f) (hnd : ns.Nodup) : akeys f = ns := (fits_keys h).trans keys_by
theorem fil_filter {f : Fil} {p : Int → Bool} : ((akeys f).Nodup) → ((akeys f).filter fun n => p ((aget f n).getD 0)).length = (f.filter fun x => p x.2).length := by
  intro hn
  have : ∀ {g : Fil}, (∀ x ∈ g, aget f x.1 = some x.2) → ((akeys g).filter fun n => p ((aget f n).getD 0)).length = (g.filter fun x => p x.2).length := by
    intro g
    induction g with
    | nil => intro _; rfl
    | cons x r ih =>
      intro hg
      have ih := ih fun y hy => hg y (List.mem_cons_of_mem _ hy)
      unfold akeys at ih ⊢
      rw [List.map_cons, List.filter_cons, List.filter_cons, hg x List.mem_cons_self]
      show (if p x.2 = true then _ else _ : List Nm).length = _
      split
      · rw [List.length_cons, List.length_cons, ih]
      · exact ih
  exact this fun x hx => aget_of hn hx

/-! Sk43: the law of k11 to k13, whatever the wish. -/
open PySem PySem.Spec
open L2 (ixN atI)
/-- the store has grown, and no more -/
def Ext (S S' : Sto) : Prop := ∃ E, S' = S ++ E
theorem Ext.refl {S : Sto} : Ext S S := ⟨[], (List.append_nil S).symm⟩
theorem Ext.trans {S S1 S2 : Sto} (a : Ext S S1) (b : Ext S1 S2) : Ext S S2 := by
  obtain ⟨E, rfl⟩ := a
  obtain ⟨F, rfl⟩ := b
  exact ⟨E ++ F, List.append_assoc ..⟩
theorem Ext.get {S S' : Sto} (a : Ext S S') {j : Nat} {o : O} (h : S[j]? = some o) : S'[j]? = some o := by
  obtain ⟨E, rfl⟩ := a
  rw [List.getElem?_append_left (List.getElem?_eq_some_iff.mp h).1, h]
theorem Ext.dl {S S' : Sto} (a : Ext S S') {n m : Nat} (h : Dl S n m) : Dl S' n m := by
  obtain ⟨mixed, seed, number, left, e, hn, hm, s0, n0, l0, ll⟩ := h
  exact ⟨mixed, seed, number, left, e, a.get hn, a.get hm, s0, n0, l0, ll⟩
theorem Ext.len {S S' : Sto} (a : Ext S S') : S.length ≤ S'.length := by
  obtain ⟨E, rfl⟩ := a
  rw [List.length_append]
  omega
/-- an answer with a store that has grown -/
abbrev PureX (T : Tab) (k : Nat) (f : Str) (ds : List D) (S : Sto) (o : Op) : Prop := WF T k f ds S fun x S' => x = o ∧ Ext S S'
theorem WF.elimX {T : Tab} {k : Nat} {f : Str} {ds : List D} {S : Sto} {Q : Op → Sto → Prop} {o : Op} (h : PureX T k f ds S o) (q : ∀ S', Ext S S' → Q o S') : WF T k f ds S Q := h.mono fun x S' ⟨e1, e2⟩ => by
  rw [e1]
  exact q S' e2
theorem Pure.x {T : Tab} {k : Nat} {f : Str} {ds : List D} {S : Sto} {o : Op} (h : Pure T k f ds S o) : PureX T k f ds S o := h.mono fun x S' ⟨e1, e2⟩ => ⟨e1, by rw [e2]; exact .refl⟩
theorem toldX {T : Tab} {k : Nat} (hF : T.F "_law_told" = some ⟨9, 4, L_told⟩) (hFi : T.F "_law_fillings" = some ⟨8, 2, L_fillings⟩) {S : Sto} {t : Nat} {c mk mb : Str} {fs : List (Str × D)} {w : D} {ns : List Nm} {ps : Rooms} {kp : Fil → Bool} {a b : Bool} {Q : Op → Sto → Prop}
    (ht : S[t]? = some (.ins c fs)) (h1 : fs.lookup ("may_keep" : Str) = none) (h2 : fs.lookup ("may_break" : Str) = none) (m1 : T.M c "may_keep" = some mk) (m2 : T.M c "may_break" = some mb)
    (hnd : ns.Nodup) (hl : ns.length ≤ 900) (hpn : (akeys ps).Nodup) (hr : ∀ n ∈ ns, ∃ r, aget ps n = some r ∧ r ≠ []) (hb : nfills (cellsBy ps ns) ≤ 100000) (hz : 100000 < sizeLine)
    (hk : ∀ f, Fits (cellsBy ps ns) f → Pure T (k + 1) "_law_kept" [w, filD f] S (.fz (.bl (kp f))))
    (ha : PureX T (k + 1) mk [.ref t, roomsD ps] S (.fz (.bl a))) (hbb : ∀ S', Ext S S' → PureX T (k + 1) mb [.ref t, roomsD ps] S' (.fz (.bl b)))
    (ia : a = true ↔ ∃ f, Fits (cellsBy ps ns) f ∧ kp f = true) (ib : b = true ↔ ∃ f, Fits (cellsBy ps ns) f ∧ kp f = false) (q : ∀ S', Ext S S' → Q (.fz (.bl true)) S') : WF T (k + 2) "_law_told" [.ref t, w, .lst (ns.map strD), roomsD ps] S Q := by
  refine wf_def hF rfl ?_
  show WSs T (k + 1) L_told [.va (.ref t), .va w, .va (.lst (ns.map strD)), .va (roomsD ps), .no, .no, .no, .no, .no] S (retQ Q)
  unfold L_told
  simp_arith!
  refine fillings_ok (k := k) hFi rfl (fun _ _ => ⟨rfl, rfl⟩) hnd hl hr hb hz ?_
  have sq : ∀ xs : List Fil, seqD (.lst (xs.map filD)) = some (xs.map filD) := fun _ => rfl
  simp_arith! [sq]
  have hfl : (fills (cellsBy ps ns)).length ≤ sizeLine := by rw [fills_len]; omega
  refine wlcN (enc := filD) (xs := fills (cellsBy ps ns)) (fun f => .bl (kp f)) hfl (fun f hf => ?_) ?_
  · simp_arith!
    refine (hk f (mem_fills.mp hf)).elim ?_
    simp_arith!
  have mm : (fills (cellsBy ps ns)).map (fun f => D.bl (kp f)) = ((fills (cellsBy ps ns)).map kp).map .bl := by rw [List.map_map]; rfl
  have dd : bfD .dict (roomsD ps) = some (.fr (roomsD ps)) := rfl
  rw [mm]
  have at1 : isAt "may_keep" = false := by decide
  have at2 : isAt "may_break" = false := by decide
  simp_arith! [dd, asIns_of ht, h1, h2, m1, m2, at1, at2]
  refine ha.elimX fun S1 x1 => ?_
  have ht' := x1.get ht
  simp_arith! [asIns_of ht', h1, h2, m1, m2, at1, at2]
  refine (hbb S1 x1).elimX fun S2 x2 => ?_
  have q := q S2 (x1.trans x2)
  simp_arith! [seqD]
  have l2 : [D.bl a, .bl b] = [a, b].map .bl := rfl
  rw [l2]
  refine wforM (enc := D.bl) (xs := [a, b]) [8] [.no] (fun r vs S' => S' = S2 ∧ ∃ a8 : Sl, vs = [a8]) rfl ⟨rfl, _, rfl⟩ ?_ ?_
  · rintro x r vs S3 ⟨rfl, a8, rfl⟩
    simp_arith! [isaB isa_bb]
    exact ⟨[_], rfl, _, rfl⟩
  · rintro vs S3 ⟨rfl, a8, rfl⟩
    simp_arith! [in_bls]
    have e : cmpD .eq (.lst ([a, b].map .bl)) (.lst [.bl (decide (true ∈ (fills (cellsBy ps ns)).map kp)), .bl (decide (false ∈ (fills (cellsBy ps ns)).map kp))]) = some true := by
      have := eq_bls (xs := [a, b]) (ys := [decide (true ∈ (fills (cellsBy ps ns)).map kp), decide (false ∈ (fills (cellsBy ps ns)).map kp)])
      rw [show ∀ x y : Bool, D.lst [.bl x, .bl y] = .lst ([x, y].map .bl) from fun _ _ => rfl, this]
      congr 1
      refine decide_eq_true ?_
      have ea : a = decide (true ∈ (fills (cellsBy ps ns)).map kp) := bool_iff (ia.trans (by simp only [List.mem_map, mem_fills]))
      have eb : b = decide (false ∈ (fills (cellsBy ps ns)).map kp) := bool_iff (ib.trans (by simp only [List.mem_map, mem_fills]))
      rw [← ea, ← eb]
    simp_arith! [e, eq_rooms hpn]

/-- rooms of some cells, within the bounds -/
def RoomsB (ns : List Nm) (ps : Rooms) : Prop := (akeys ps).Nodup ∧ (∀ n ∈ ns, ∃ r, aget ps n = some r ∧ r ≠ [] ∧ r.length ≤ 4 ∧ VB r) ∧ ∀ n ∈ ns, ∀ r, aget ps n = some r → r.Nodup
theorem RoomsB.by {ns : List Nm} {ps : Rooms} (h : RoomsB ns ps) : ∀ c ∈ cellsBy ps ns, c.2 ≠ [] ∧ c.2.length ≤ 4 ∧ VB c.2 := fun c hc => by
  obtain ⟨n, hn, rfl⟩ := List.mem_map.mp hc
  obtain ⟨r, e, h1, h2, h3⟩ := h.2.1 n hn
  show (aget ps n).getD [] ≠ [] ∧ ((aget ps n).getD []).length ≤ 4 ∧ VB ((aget ps n).getD [])
  rw [e]
  exact ⟨h1, h2, h3⟩
theorem RoomsB.fills {ns : List Nm} {ps : Rooms} (h : RoomsB ns ps) (hl : ns.length ≤ 5) : nfills (cellsBy ps ns) ≤ 100000 :=
  Nat.le_trans (nfills_le (b := 4) (n := 5) (fun c hc => (h.by c hc).2.1) (by unfold cellsBy; rw [List.length_map]; exact hl) (by decide)) (by decide)
def lawC (C : Str) (mm : Int) : List CS := [
  .asg 1 (.al (.call "_law_deal" [.var 0, .int 1])),
  .asg 2 (.call "_law_names" [.var 1, .bop .add (.int 2) (.call "_law_draw" [.var 1, .int mm])]),
  .asg 3 (.call "_law_pool" [.var 1, .bop .add (.int 1) (.call "_law_draw" [.var 1, .int 6])]),
  .asg 4 (.call "_law_rooms" [.var 1, .var 2, .var 3, .int 4]),
  .asg 5 (.lst [.call "_law_wish" [.var 1, .slc (.var 2) (some (.int 1)) none, .var 3, .var 4], .call "_law_wish" [.var 1, .slc (.var 2) none (some (.neg (.int 1))), .var 3, .var 4]]),
  .asg 6 (.lc (.new C [.var 7]) (.one 7) (.seq (.var 5)) []),
  .ife (.orr (.no (.call "_law_told" [.sub (.var 6) (.int 0), .sub (.var 5) (.int 0), .slc (.var 2) (some (.int 1)) none, .var 4])) (.no (.call "_law_told" [.sub (.var 6) (.int 1), .sub (.var 5) (.int 1), .slc (.var 2) none (some (.neg (.int 1))), .var 4])))
  [.ret (.bl false)]
  [],
  .asg 8 (.sub (.var 2) (.call "_law_draw" [.var 1, .bf .len (.var 2)])),
  .asgO 9 (.bf .dict (.var 4)),
  .ife (.cmp .gt (.bf .len (.sub (.var 4) (.var 8))) (.int 1))
  [.asg 10 (.call "_law_draw" [.var 1, .bf .len (.sub (.var 4) (.var 8))]), .setI (.rd 9) (.var 8) (.bop .add (.slc (.sub (.var 4) (.var 8)) none (some (.var 10))) (.slc (.sub (.var 4) (.var 8)) (some (.bop .add (.var 10) (.int 1))) none))]
  [],
  .frz 9 (.ife (.no (.call "_law_told" [.sub (.var 6) (.int 0), .sub (.var 5) (.int 0), .slc (.var 2) (some (.int 1)) none, .rd 9]))
  [.ret (.bl false)]
  []),
  .ret (.and (.call "_law_told" [.sub (.var 6) (.int 1), .sub (.var 5) (.int 1), .slc (.var 2) none (some (.neg (.int 1))), .var 4]) (.call "_law_told" [.sub (.var 6) (.int 0), .sub (.var 5) (.int 0), .slc (.var 2) (some (.int 1)) none, .var 4]))]
structure Law13 (T : Tab) (C a i : Str) (mm : Int) (G : D → List Nm → Prop) : Prop where
  D : T.F "_law_draw" = some ⟨5, 2, drawC⟩
  Dl : T.F "_law_deal" = some ⟨5, 2, dealC⟩
  Nm : T.F "_law_names" = some ⟨8, 2, namesC⟩
  P : T.F "_law_pool" = some ⟨5, 2, L_pool_k11⟩
  R : T.F "_law_rooms" = some ⟨9, 4, L_rooms_k11⟩
  N : T.F (newName C) = some ⟨1, 1, [.mk C i]⟩
  I : T.F i = some ⟨2, 2, [.setA (.var 0) "wish" (.var 1)]⟩
  A : T.M C (atName "wish") = some a
  L : T.F "law" = some ⟨11, 1, lawC C mm⟩
  m1 : 1 ≤ mm
  m5 : mm ≤ 5
  W : ∀ {k : Nat} {S0 S : Sto} {n m : Nat} {ns : List Sk.Nm} {is : List Int} {ps : Rooms} {Q : Op → Sto → Prop}, Dk S0 S n m → ns.length ≤ 5 → ns.Nodup → 1 ≤ is.length → is.length ≤ 6 → RoomsB ns ps → (∀ w S', G w ns → Dk S0 S' n m → Q (.fz w) S') → WF T (k + 4) "_law_wish" [.ref n, .lst (ns.map strD), .lst (is.map .int), roomsD ps] S Q
  Told : ∀ {k : Nat} {S : Sto} {t : Nat} {w : Sk.D} {ns : List Sk.Nm} {ps : Rooms} {Q : Op → Sto → Prop}, S[t]? = some (.ins C [("wish", w)]) → G w ns → ns.Nodup → ns.length ≤ 5 → RoomsB ns ps → (∀ S', Ext S S' → Q (.fz (.bl true)) S') → WF T (k + 20) "_law_told" [.ref t, w, .lst (ns.map strD), roomsD ps] S Q
theorem law13_ok {T : Tab} {C a i : Str} {mm : Int} {G : D → List Nm → Prop} (L : Law13 T C a i mm G) : Law T 30 := by
  refine law_of fun script hl => ?_
  refine wf_def L.L rfl ?_
  show WSs T 29 (_ :: _ :: _ :: _ :: (lawC C mm).drop 4) [.va (.lst (script.map .int)), .no, .no, .no, .no, .no, .no, .no, .no, .no, .no] [] _
  simp_arith!
  refine dealS (v := 1) L.Dl hl (by decide) fun d S hd hS => ?_
  simp_arith! [hS]
  refine drawK L.D (.mk hd) (by have := L.m1; omega) (by have := L.m5; omega) fun v S1 v0 v1 d1 => ?_
  simp_arith!
  have hm5 := L.m5
  refine names_ok (k := 27) L.D L.Nm d1.1 (by omega) (by omega) fun ws S2 hlen hw d2 e2 => ?_
  simp_arith!
  refine drawK L.D (.mk d2) (by decide) (by decide) fun x S3 x0 x1 d3 => ?_
  simp_arith!
  refine pool11_ok (k := 27) L.D L.P d3 (by omega) (by omega) fun is S4 il ilt ib d4 => ?_
  simp_arith!
  refine rooms11_ok (k := 27) (most := 4) L.D L.R d4 hw.nd (by omega) (by omega) (by omega) (ilt.imp fun h => by omega) (by decide) (by decide) fun ps S5 ek hp d5 => ?_
  simp_arith!
  have rk : ∀ n ∈ ws, ∃ r, aget ps n = some r ∧ r ≠ [] ∧ r.length ≤ 4 ∧ VB r := fun n hn => by
    obtain ⟨r, hr⟩ := aget_some (ps := ps) (k := n) (by rw [ek]; exact hn)
    have h := hp _ (aget_mem hr)
    exact ⟨r, hr, h.ne, h.le, fun i hi => ib i (h.sub i hi)⟩
  have rn : ∀ n r, aget ps n = some r → r.Nodup := fun n r hr => ((hp _ (aget_mem hr)).srt).imp fun h => Int.ne_of_lt h
  have rt : RoomsB ws.tail ps := ⟨by rw [ek]; exact hw.nd, fun n hn => rk n (List.mem_of_mem_tail hn), fun n _ => rn n⟩
  have ri : RoomsB ws.dropLast ps := ⟨by rw [ek]; exact hw.nd, fun n hn => rk n ((List.dropLast_sublist ws).subset hn), fun n _ => rn n⟩
  have nt : ws.tail.Nodup := hw.nd.sublist (List.tail_sublist ws)
  have ni : ws.dropLast.Nodup := hw.nd.sublist (List.dropLast_sublist ws)
  have ct : ws.tail.length ≤ 5 := by rw [List.length_tail]; omega
  have ci : ws.dropLast.length ≤ 5 := by rw [List.length_dropLast]; omega
  show WSs T 29 (_ :: _ :: (lawC C mm).drop 6) _ _ _
  simp_arith! [sl_lo1, sl_m1]
  refine L.W (k := 25) d5 ct nt (by omega) (by omega) rt fun w1 S6 G1 d6 => ?_
  simp_arith! [sl_lo1, sl_m1]
  refine L.W (k := 25) d6 ci ni (by omega) (by omega) ri fun w2 S7 G2 d7 => ?_
  simp_arith! [sl_lo1, sl_m1, wlc_cons, wlc_nil]
  refine newWish (k := 27) L.N L.I L.A ?_
  simp_arith!
  refine newWish (k := 27) L.N L.I L.A ?_
  simp_arith!
  have lt := d7.1.lt
  have t1 : (S7 ++ [O.ins C [("wish", w1)]] ++ [O.ins C [("wish", w2)]])[S7.length]? = some (.ins C [("wish", w1)]) := by
    rw [List.append_assoc, List.getElem?_append_right (Nat.le_refl _), Nat.sub_self]
    rfl
  have t2 : (S7 ++ [O.ins C [("wish", w1)]] ++ [O.ins C [("wish", w2)]])[S7.length + 1]? = some (.ins C [("wish", w2)]) := by
    rw [List.append_assoc, List.getElem?_append_right (by omega), show S7.length + 1 - S7.length = 1 by omega]
    rfl
  have d8 := (d7.1.app (O.ins C [("wish", w1)])).app (O.ins C [("wish", w2)])
  rw [List.length_append, List.length_singleton]
  generalize (S7 ++ [O.ins C [("wish", w1)]] ++ [O.ins C [("wish", w2)]]) = S8 at t1 t2 d8 ⊢
  generalize S7.length = n1 at t1 t2 lt ⊢
  clear d1 d2 d3 d4 d5 d6 d7 e2
  show WSs T 29 (_ :: _ :: (lawC C mm).drop 8) _ _ _
  simp_arith! [sl_lo1, sl_m1, List.nil_append, List.singleton_append]
  refine L.Told (k := 9) t1 G1 nt ct rt fun S9 x9 => ?_
  simp_arith! [sl_lo1, sl_m1]
  have t1 := x9.get t1
  have t2 := x9.get t2
  have d8 := x9.dl d8
  refine L.Told (k := 9) t2 G2 ni ci ri fun S10 x10 => ?_
  simp_arith! [sl_lo1, sl_m1]
  have t1 := x10.get t1
  have t2 := x10.get t2
  have d8 := x10.dl d8
  refine drawK L.D (.mk d8) (by omega) (by omega) fun y S9 y0 y1 d9 => ?_
  simp_arith!
  refine o_atMap y0 y1 fun hy => ?_
  have mw : ws[y.toNat] ∈ ws := List.getElem_mem hy
  generalize ws[y.toNat] = w at mw ⊢
  have rnd := rn
  obtain ⟨r, er, rn, rl, rb⟩ := rk w mw
  have g1 := d9.get t1 (by omega) (by omega)
  have g2 := d9.get t2 (by omega) (by omega)
  have d9 := d9.1
  simp_arith!
  show WSs T 29 (_ :: _ :: (lawC C mm).drop 10) _ _ _
  simp_arith! [er]
  have fin : ∀ (ps' : Rooms) (S9 : Sto) (a10 : Sl), RoomsB ws.tail ps' → S9[n1]? = some (.ins C [("wish", w1)]) → S9[n1 + 1]? = some (.ins C [("wish", w2)]) → WSs T 29 ((lawC C mm).drop 10) [.va (.lst (script.map .int)), .va (.ref 1), .va (.lst (ws.map strD)), .va (.lst (is.map .int)), .va (roomsD ps), .va (.lst [w1, w2]), .va (.lst [.ref n1, .ref (n1 + 1)]), .no, .va (strD w), .ow (roomsD ps'), a10] S9 (retQ fun o S => o = Op.fz (D.bl true)) := fun ps' S9 a10 rk' g1 g2 => by
    show WSs T 29 [_, _] _ _ _
    simp_arith! [sl_lo1, sl_m1]
    refine L.Told (k := 9) g1 G1 nt ct rk' fun S11 x11 => ?_
    simp_arith! [sl_lo1, sl_m1]
    have g1 := x11.get g1
    refine L.Told (k := 9) (x11.get g2) G2 ni ci ri fun S12 x12 => ?_
    simp_arith! [sl_lo1, sl_m1]
    refine L.Told (k := 9) (x12.get g1) G1 nt ct rt fun S13 x13 => ?_
    simp_arith!
  split
  · rename_i h
    simp_arith! [er]
    refine drawK L.D (.mk d9) (by omega) (by omega) fun z S10 z0 z1 d10 => ?_
    have pm : ∀ r : List Int, putC (tupI r) (roomsD ps) (strD w) = fun Q => ps.length < sizeLine ∧ Q (roomsD (aput ps w r)) := fun r => funext fun Q => propext (p_mapS (by rw [ek]; exact hw.nd))
    simp_arith! [er, sl_hiT z0, sl_loT (show 0 ≤ z + 1 by omega), o_addTI, pm]
    have lps : ps.length ≤ 6 := by
      have := congrArg List.length ek
      unfold akeys at this
      rw [List.length_map] at this
      omega
    have hl1 : (List.take z.toNat r ++ List.drop (z + 1).toNat r).length = r.length - 1 := by rw [List.length_append, List.length_take, List.length_drop]; omega
    have lm := line1m
    refine ⟨by rw [← List.length_append]; omega, by omega, fin _ S10 _ ⟨nodup_aput rt.1, fun n hn => ?_, fun n hn x hx => ?_⟩ (d10.get g1 (by omega) (by omega)) (d10.get g2 (by omega) (by omega))⟩
    rw [aget_aput]
    split
    · exact ⟨_, rfl, fun z => by rw [z] at hl1; simp at hl1; omega, by omega, fun i hi => (List.mem_append.mp hi).elim (fun z => rb i (List.mem_of_mem_take z)) fun z => rb i (List.mem_of_mem_drop z)⟩
    · exact rt.2.1 n hn
    · rw [aget_aput] at hx
      split at hx
      · cases hx
        have sub : (List.take z.toNat r ++ List.drop (z + 1).toNat r).Sublist r := by
          conv => rhs; rw [← List.take_append_drop z.toNat r]
          refine (List.Sublist.refl _).append ?_
          rw [show (z + 1).toNat = z.toNat + 1 by omega, ← List.drop_drop]
          exact List.drop_sublist 1 _
        exact (rnd w r er).sublist sub
      · exact rnd n x hx
  · simp_arith!
    exact fin ps S9 _ rt g1 g2

/-! Sk44: the sort sum. -/
open PySem PySem.Spec
open L2 (ixN atI)
/-! ### plain -/
abbrev Terms := List (Int × Nm)
def roomOf (ps : Rooms) (n : Nm) : List Int := (aget ps n).getD []
def valOf (f : Fil) (n : Nm) : Int := (aget f n).getD 0
def sumF (ts : Terms) (f : Fil) : Int := (ts.map fun t => t.1 * valOf f t.2).sum
def sumZ : Terms → Fil → Int
  | t :: ts, x :: f => t.1 * x.2 + sumZ ts f
  | _, _ => 0
def sumLo (ps : Rooms) (ts : Terms) : Int := (ts.map fun t => minI ((roomOf ps t.2).map (t.1 * ·))).sum
def sumHi (ps : Rooms) (ts : Terms) : Int := (ts.map fun t => maxI ((roomOf ps t.2).map (t.1 * ·))).sum
def within (lo hi : Option Int) (s : Int) : Bool := (lo.all fun l => decide (l ≤ s)) && hi.all fun h => decide (s ≤ h)
theorem sumF_Z {ts : Terms} {f : Fil} (e : akeys f = ts.map (·.2)) (hn : (akeys f).Nodup) : sumF ts f = sumZ ts f := by
  have : ∀ {g : Fil} {us : Terms}, (∀ x ∈ g, aget f x.1 = some x.2) → akeys g = us.map (·.2) → sumF us f = sumZ us g := by
    intro g us
    induction us generalizing g with
    | nil => intro _ _; rfl
    | cons u us ih =>
      intro h e
      cases g with
      | nil => cases e
      | cons x g =>
        unfold akeys at e
        rw [List.map_cons, List.map_cons] at e
        injection e with e1 e2
        have := ih (g := g) (fun y hy => h y (List.mem_cons_of_mem _ hy)) e2
        have hx := h x List.mem_cons_self
        show (List.map _ _).sum = _
        rw [List.map_cons, List.sum_cons]
        show u.1 * valOf f u.2 + sumF us f = u.1 * x.2 + sumZ us g
        have e1 : x.1 = u.2 := e1
        rw [this, ← e1]
        unfold valOf
        rw [hx]
        rfl
  exact this (fun x hx => aget_of hn hx) e
theorem by_cons {ps : Rooms} {n : Nm} {ns : List Nm} : cellsBy ps (n :: ns) = (n, roomOf ps n) :: cellsBy ps ns := rfl
theorem by_app {ps : Rooms} {ns ms : List Nm} : cellsBy ps (ns ++ ms) = cellsBy ps ns ++ cellsBy ps ms := by unfold cellsBy; rw [List.map_append]
theorem fits_app {cs ds : Rooms} {f : Fil} : Fits (cs ++ ds) f ↔ ∃ g h, f = g ++ h ∧ Fits cs g ∧ Fits ds h := by
  constructor
  · induction cs generalizing f with
    | nil => exact fun h => ⟨[], f, rfl, .nil, h⟩
    | cons c cs ih =>
      intro h
      cases h with
      | cons h1 h2 =>
        obtain ⟨g, h, rfl, a, b⟩ := ih h2
        exact ⟨_ :: g, h, rfl, .cons h1 a, b⟩
  · rintro ⟨g, h, rfl, a, b⟩
    induction a with
    | nil => exact b
    | cons h1 _ ih => exact .cons h1 ih
theorem fits_one {c : Nm × List Int} {f : Fil} : Fits [c] f ↔ ∃ v ∈ c.2, f = [(c.1, v)] := by
  constructor
  · intro h
    cases h with
    | @cons _ x _ _ h1 h2 =>
      cases h2
      exact ⟨x.2, h1.2, by rw [← h1.1]⟩
  · rintro ⟨v, hv, rfl⟩
    exact .cons ⟨rfl, hv⟩ .nil
theorem sumZ_app {ts us : Terms} {f g : Fil} (h : ts.length = f.length) : sumZ (ts ++ us) (f ++ g) = sumZ ts f + sumZ us g := by
  induction ts generalizing f with
  | nil =>
    have : f = [] := List.length_eq_zero_iff.mp h.symm
    subst this
    show _ = 0 + _
    rw [Int.zero_add]
    rfl
  | cons t ts ih =>
    cases f with
    | nil => cases h
    | cons x f =>
      have := ih (f := f) (by simpa using h)
      show t.1 * x.2 + sumZ (ts ++ us) (f ++ g) = t.1 * x.2 + sumZ ts f + sumZ us g
      rw [this, Int.add_assoc]
theorem fits_len {cs : Rooms} {f : Fil} (h : Fits cs f) : f.length = cs.length := by
  induction h with
  | nil => rfl
  | cons _ _ ih => rw [List.length_cons, List.length_cons, ih]
theorem minI_mul {a : Int} {xs : List Int} (h : xs ≠ []) : (∃ v ∈ xs, a * v = minI (xs.map (a * ·))) ∧ ∀ v ∈ xs, minI (xs.map (a * ·)) ≤ a * v := by
  cases xs with
  | nil => exact (h rfl).elim
  | cons x r =>
    obtain ⟨h1, h2⟩ := minI_mem (a * x) (r.map (a * ·))
    refine ⟨?_, fun v hv => h2 _ (List.mem_map_of_mem (f := (a * ·)) hv)⟩
    obtain ⟨v, hv, e⟩ := List.mem_map.mp (show minI ((x :: r).map (a * ·)) ∈ (x :: r).map (a * ·) from h1)
    exact ⟨v, hv, e⟩
theorem maxI_mul {a : Int} {xs : List Int} (h : xs ≠ []) : (∃ v ∈ xs, a * v = maxI (xs.map (a * ·))) ∧ ∀ v ∈ xs, a * v ≤ maxI (xs.map (a * ·)) := by
  cases xs with
  | nil => exact (h rfl).elim
  | cons x r =>
    obtain ⟨h1, h2⟩ := maxI_mem (a * x) (r.map (a * ·))
    refine ⟨?_, fun v hv => h2 _ (List.mem_map_of_mem (f := (a * ·)) hv)⟩
    obtain ⟨v, hv, e⟩ := List.mem_map.mp (show maxI ((x :: r).map (a * ·)) ∈ (x :: r).map (a * ·) from h1)
    exact ⟨v, hv, e⟩
theorem sum_range {ps : Rooms} {ts : Terms} (hr : ∀ t ∈ ts, roomOf ps t.2 ≠ []) {f : Fil} (h : Fits (cellsBy ps (ts.map (·.2))) f) : sumLo ps ts ≤ sumZ ts f ∧ sumZ ts f ≤ sumHi ps ts := by
  induction ts generalizing f with
  | nil => exact ⟨Int.le_refl _, Int.le_refl _⟩
  | cons t ts ih =>
    rw [List.map_cons, by_cons] at h
    cases h with
    | @cons _ x _ f h1 h2 =>
      obtain ⟨i1, i2⟩ := ih (fun u hu => hr u (List.mem_cons_of_mem _ hu)) h2
      have m1 := (minI_mul (a := t.1) (hr t List.mem_cons_self)).2 x.2 h1.2
      have m2 := (maxI_mul (a := t.1) (hr t List.mem_cons_self)).2 x.2 h1.2
      unfold sumLo at i1 ⊢
      unfold sumHi at i2 ⊢
      rw [List.map_cons, List.sum_cons, List.map_cons, List.sum_cons]
      show _ ≤ t.1 * x.2 + sumZ ts f ∧ t.1 * x.2 + sumZ ts f ≤ _
      omega
theorem sum_lo {ps : Rooms} {ts : Terms} (hr : ∀ t ∈ ts, roomOf ps t.2 ≠ []) : ∃ f, Fits (cellsBy ps (ts.map (·.2))) f ∧ sumZ ts f = sumLo ps ts := by
  induction ts with
  | nil => exact ⟨[], .nil, rfl⟩
  | cons t ts ih =>
    obtain ⟨f, hf, e⟩ := ih (fun u hu => hr u (List.mem_cons_of_mem _ hu))
    obtain ⟨v, hv, ev⟩ := (minI_mul (a := t.1) (hr t List.mem_cons_self)).1
    refine ⟨(t.2, v) :: f, .cons ⟨rfl, hv⟩ hf, ?_⟩
    show t.1 * v + sumZ ts f = _
    unfold sumLo at e ⊢
    rw [List.map_cons, List.sum_cons, e, ev]
theorem sum_hi {ps : Rooms} {ts : Terms} (hr : ∀ t ∈ ts, roomOf ps t.2 ≠ []) : ∃ f, Fits (cellsBy ps (ts.map (·.2))) f ∧ sumZ ts f = sumHi ps ts := by
  induction ts with
  | nil => exact ⟨[], .nil, rfl⟩
  | cons t ts ih =>
    obtain ⟨f, hf, e⟩ := ih (fun u hu => hr u (List.mem_cons_of_mem _ hu))
    obtain ⟨v, hv, ev⟩ := (maxI_mul (a := t.1) (hr t List.mem_cons_self)).1
    refine ⟨(t.2, v) :: f, .cons ⟨rfl, hv⟩ hf, ?_⟩
    show t.1 * v + sumZ ts f = _
    unfold sumHi at e ⊢
    rw [List.map_cons, List.sum_cons, e, ev]
/-- the sums that come of terms -/
def Comes (ps : Rooms) (ts : Terms) (s : Int) : Prop := ∃ f, Fits (cellsBy ps (ts.map (·.2))) f ∧ sumZ ts f = s
theorem comes_nil {ps : Rooms} {s : Int} : Comes ps [] s ↔ s = 0 := ⟨fun ⟨f, hf, e⟩ => e.symm, fun e => ⟨[], .nil, e.symm⟩⟩
theorem comes_snoc {ps : Rooms} {ts : Terms} {t : Int × Nm} {s : Int} : Comes ps (ts ++ [t]) s ↔ ∃ o, Comes ps ts o ∧ ∃ v ∈ roomOf ps t.2, s = o + t.1 * v := by
  have len : ∀ {f : Fil}, Fits (cellsBy ps (ts.map (·.2))) f → ts.length = f.length := fun h => by
    rw [fits_len h]
    unfold cellsBy
    rw [List.length_map, List.length_map]
  constructor
  · rintro ⟨f, hf, e⟩
    rw [List.map_append, by_app, fits_app] at hf
    obtain ⟨g, h, rfl, hg, hh⟩ := hf
    obtain ⟨v, hv, rfl⟩ := fits_one.mp hh
    rw [sumZ_app (len hg)] at e
    refine ⟨_, ⟨g, hg, rfl⟩, v, hv, ?_⟩
    rw [← e]
    show _ + (t.1 * v + 0) = _
    omega
  · rintro ⟨o, ⟨g, hg, rfl⟩, v, hv, rfl⟩
    refine ⟨g ++ [(t.2, v)], ?_, ?_⟩
    · rw [List.map_append, by_app, fits_app]
      exact ⟨g, _, rfl, hg, fits_one.mpr ⟨v, hv, rfl⟩⟩
    · rw [sumZ_app (len hg)]
      show _ + (t.1 * v + 0) = _
      omega
/-! ### walks -/
theorem is_opt {o : Option Int} : cmpD .is (optD o) .non = some o.isNone := by cases o <;> rfl
theorem isn_opt {o : Option Int} : cmpD .isn (optD o) .non = some o.isSome := by cases o <;> rfl
theorem cont_opt {ρ : Env'} {S : Sto} {o : Option Int} : cont ρ S (.fz (optD o)) = some (optD o) := by cases o <;> rfl
theorem look_opt {ρ : Env'} {S : Sto} {o : Option Int} : look ρ S (.fz (optD o)) = some (optD o) := by cases o <;> rfl
theorem le_opt {a b : Int} : cmpD .le (.int a) (optD (some b)) = some (decide (a ≤ b)) := rfl
theorem ge_opt {a b : Int} : cmpD .ge (.int a) (optD (some b)) = some (decide (a ≥ b)) := rfl
theorem lt_opt {a b : Int} : cmpD .lt (.int a) (optD (some b)) = some (decide (a < b)) := rfl
theorem gt_opt {a b : Int} : cmpD .gt (.int a) (optD (some b)) = some (decide (a > b)) := rfl
/-- the object of a sum -/
structure SumT (T : Tab) : Prop where
  F1 : T.F "Sum.least" = some ⟨5, 2, M_Sum_least⟩
  F2 : T.F "Sum.greatest" = some ⟨5, 2, M_Sum_greatest⟩
  F3 : T.F "Sum.all_sums" = some ⟨8, 2, M_Sum_all_sums⟩
  F4 : T.F "Sum.may_keep" = some ⟨7, 2, M_Sum_may_keep⟩
  F5 : T.F "Sum.may_break" = some ⟨6, 2, M_Sum_may_break⟩
  F6 : T.F "within" = some ⟨3, 3, P_within⟩
  M1 : T.M "Sum" "least" = some ("Sum.least" : Str)
  M2 : T.M "Sum" "greatest" = some ("Sum.greatest" : Str)
  M3 : T.M "Sum" "all_sums" = some ("Sum.all_sums" : Str)
  A : T.M "Sum" (atName "wish") = some ("wish" : Str)
theorem within_ok {T : Tab} {k : Nat} (hF : T.F "within" = some ⟨3, 3, P_within⟩) {S : Sto} {s : Int} {lo hi : Option Int} : Pure T (k + 1) "within" [.int s, optD lo, optD hi] S (.fz (.bl (within lo hi s))) := by
  refine wf_def hF rfl ?_
  show WSs T k P_within [.va (.int s), .va (optD lo), .va (optD hi)] S (retQ _)
  unfold P_within within
  cases lo with
  | none =>
    cases hi with
    | none => simp_arith! [isn_opt, is_opt, look_opt, Option.isSome_none, Option.isNone_none, Option.all_none]
    | some h => simp_arith! [isn_opt, is_opt, look_opt, Option.isSome_none, Option.isNone_none, Option.isSome_some, Option.isNone_some, Option.all_none, Option.all_some, le_opt]
  | some l =>
    cases hi with
    | none =>
      simp_arith! [isn_opt, is_opt, look_opt, Option.isSome_none, Option.isNone_none, Option.isSome_some, Option.isNone_some, Option.all_none, Option.all_some, lt_opt]
      split
      · rename_i c
        rw [decide_eq_false (by omega)]
      · rename_i c
        rw [decide_eq_true (by omega)]
    | some h =>
      simp_arith! [isn_opt, is_opt, look_opt, Option.isSome_none, Option.isNone_none, Option.isSome_some, Option.isNone_some, Option.all_none, Option.all_some, lt_opt, le_opt]
      split
      · rename_i c
        rw [decide_eq_false (by omega), Bool.false_and]
      · rename_i c
        rw [decide_eq_true (show l ≤ s by omega), Bool.true_and]
section
variable {T : Tab} {k : Nat} (hT : SumT T) {S : Sto} {t : Nat} {ts : Terms} {lo hi : Option Int} {ps : Rooms} (ht : S[t]? = some (.ins "Sum" [("wish", (Wish.sum ts lo hi).d)])) (hl : ts.length ≤ 5) (hr : ∀ n ∈ ts.map (·.2), ∃ r, aget ps n = some r ∧ r ≠ [] ∧ r.length ≤ 4 ∧ VB r)
include hT ht hl hr
theorem sleast_ok : Pure T (k + 1) "Sum.least" [.ref t, roomsD ps] S (.fz (.int (sumLo ps ts))) := by
  refine wf_def hT.F1 rfl ?_
  show WSs T k M_Sum_least [.va (.ref t), .va (roomsD ps), .no, .no, .no] S (retQ _)
  unfold M_Sum_least
  have lk : ∀ d : D, List.lookup ("wish" : Str) [(("wish" : Str), d)] = some d := fun _ => rfl
  have wd : (Wish.sum ts lo hi).d = .tup [.str "sum", .tup (ts.map termD), optD lo, optD hi] := rfl
  simp_arith! [asIns_of ht, hT.A, lk, wd]
  refine wlcN (enc := termD) (xs := ts) (fun t => .int (minI ((roomOf ps t.2).map (t.1 * ·)))) (by have := line1m; omega) (fun u hu => ?_) ?_
  · obtain ⟨r, er, hne, hrl, hrb⟩ := hr u.2 (List.mem_map_of_mem hu)
    have td : termD u = .tup [.int u.1, strD u.2] := rfl
    have ro : roomOf ps u.2 = r := by unfold roomOf; rw [er]; rfl
    simp_arith! [td, er, ro]
    refine wlcN (enc := D.int) (xs := r) (fun v => .int (u.1 * v)) (by have := line1m; omega) (fun v hv => ?_) ?_
    · have := hrb v hv
      have mul : mulOk u.1 v := .inl (.inr (by omega))
      simp_arith! [mul]
    · have e : r.map (fun v => D.int (u.1 * v)) = (r.map (u.1 * ·)).map .int := by rw [List.map_map]; rfl
      rw [e]
      simp_arith!
      exact fun z => hne (List.map_eq_nil_iff.mp z)
  have e : ts.map (fun t => D.int (minI ((roomOf ps t.2).map (t.1 * ·)))) = (ts.map fun t => minI ((roomOf ps t.2).map (t.1 * ·))).map .int := by rw [List.map_map]; rfl
  rw [e]
  simp_arith!
  rfl
theorem sgreat_ok : Pure T (k + 1) "Sum.greatest" [.ref t, roomsD ps] S (.fz (.int (sumHi ps ts))) := by
  refine wf_def hT.F2 rfl ?_
  show WSs T k M_Sum_greatest [.va (.ref t), .va (roomsD ps), .no, .no, .no] S (retQ _)
  unfold M_Sum_greatest
  have lk : ∀ d : D, List.lookup ("wish" : Str) [(("wish" : Str), d)] = some d := fun _ => rfl
  have wd : (Wish.sum ts lo hi).d = .tup [.str "sum", .tup (ts.map termD), optD lo, optD hi] := rfl
  simp_arith! [asIns_of ht, hT.A, lk, wd]
  refine wlcN (enc := termD) (xs := ts) (fun t => .int (maxI ((roomOf ps t.2).map (t.1 * ·)))) (by have := line1m; omega) (fun u hu => ?_) ?_
  · obtain ⟨r, er, hne, hrl, hrb⟩ := hr u.2 (List.mem_map_of_mem hu)
    have td : termD u = .tup [.int u.1, strD u.2] := rfl
    have ro : roomOf ps u.2 = r := by unfold roomOf; rw [er]; rfl
    simp_arith! [td, er, ro]
    refine wlcN (enc := D.int) (xs := r) (fun v => .int (u.1 * v)) (by have := line1m; omega) (fun v hv => ?_) ?_
    · have := hrb v hv
      have mul : mulOk u.1 v := .inl (.inr (by omega))
      simp_arith! [mul]
    · have e : r.map (fun v => D.int (u.1 * v)) = (r.map (u.1 * ·)).map .int := by rw [List.map_map]; rfl
      rw [e]
      simp_arith!
      exact fun z => hne (List.map_eq_nil_iff.mp z)
  have e : ts.map (fun t => D.int (maxI ((roomOf ps t.2).map (t.1 * ·)))) = (ts.map fun t => maxI ((roomOf ps t.2).map (t.1 * ·))).map .int := by rw [List.map_map]; rfl
  rw [e]
  simp_arith!
  rfl
theorem sall_ok {Q : Op → Sto → Prop} (q : ∀ xs : List Int, xs.Nodup → xs.length ≤ 1024 → (∀ s, s ∈ xs ↔ Comes ps ts s) → Q (.fr (.lst (xs.map .int))) S) : WF T (k + 1) "Sum.all_sums" [.ref t, roomsD ps] S Q := by
  refine wf_def hT.F3 rfl ?_
  show WSs T k M_Sum_all_sums [.va (.ref t), .va (roomsD ps), .no, .no, .no, .no, .no, .no] S (retQ Q)
  unfold M_Sum_all_sums
  have lk : ∀ d : D, List.lookup ("wish" : Str) [(("wish" : Str), d)] = some d := fun _ => rfl
  have wd : (Wish.sum ts lo hi).d = .tup [.str "sum", .tup (ts.map termD), optD lo, optD hi] := rfl
  have d0 : D.dct (List.foldl (fun acc p => dput acc p.1 p.2) [] [((.int 0 : D), D.bl true)]) = mapD D.bl [((0 : Int), true)] := rfl
  have pu : pairUp [.int 0, .bl true] = some [(.int 0, .bl true)] := rfl
  have ik : (List.length [((.int 0 : D), D.bl true)] ≤ 15 ∧ ([((.int 0 : D), D.bl true)].all fun p => isKey p.1) = true) := by decide
  simp_arith! [asIns_of ht, hT.A, lk, wd, d0, Option.map_some, ik]
  refine wforM (enc := termD) (xs := ts) [2, 3, 4, 5, 6, 7] [.va (mapD D.bl [((0 : Int), true)]), .no, .no, .no, .no, .no] (fun r vs' S' => S' = S ∧ ∃ (dn : Terms) (fs : List (Int × Bool)) (a3 a4 a5 a6 a7 : Sl), vs' = [.va (mapD D.bl fs), a3, a4, a5, a6, a7] ∧ dn ++ r = ts ∧ (akeys fs).Nodup ∧ fs.length ≤ 4 ^ dn.length ∧ ∀ s, s ∈ akeys fs ↔ Comes ps dn s) rfl ⟨rfl, [], _, _, _, _, _, _, rfl, rfl, by simp [akeys], by simp, fun s => by rw [comes_nil]; simp [akeys]⟩ ?_ ?_
  · rintro u r vs' S1 ⟨rfl, dn, fs, a3, a4, a5, a6, a7, rfl, e, hn, hfl, hc⟩
    obtain ⟨rm, er, hne, hrl, hrb⟩ := hr u.2 (by rw [← e]; simp)
    have td : termD u = .tup [.int u.1, strD u.2] := rfl
    have ro : roomOf ps u.2 = rm := by unfold roomOf; rw [er]; rfl
    have e' : (dn ++ [u]) ++ r = ts := by rw [List.append_assoc]; exact e
    have dl : dn.length < 5 := by
      have := congrArg List.length e
      rw [List.length_append, List.length_cons] at this
      omega
    have f4 : fs.length ≤ 256 := Nat.le_trans hfl (Nat.pow_le_pow_right (n := 4) (by decide) (show dn.length ≤ 4 by omega))
    have ky : (fs.map fun p => (KeyEnc.enc p.1 : D)) = (akeys fs).map .int := by unfold akeys; rw [List.map_map]; rfl
    have kl : (akeys fs).length = fs.length := List.length_map ..
    have nil' : D.dct [] = mapD D.bl ([] : List (Int × Bool)) := rfl
    simp_arith! [td, asDct_map, keys_map, ky, List.length_nil, List.all_nil]
    rw [nil']
    refine wforM (enc := D.int) (xs := akeys fs) [5, 6, 7] [.ow (mapD D.bl ([] : List (Int × Bool))), a6, a7] (fun r vs' S' => S' = S1 ∧ ∃ (d2 : List Int) (gs : List (Int × Bool)) (a6 a7 : Sl), vs' = [.ow (mapD D.bl gs), a6, a7] ∧ d2 ++ r = akeys fs ∧ (akeys gs).Nodup ∧ gs.length ≤ d2.length * 4 ∧ ∀ s, s ∈ akeys gs ↔ ∃ o ∈ d2, ∃ v ∈ rm, s = o + u.1 * v) rfl ⟨rfl, [], _, _, _, rfl, rfl, by simp [akeys], by simp, fun s => by simp [akeys]⟩ ?_ ?_
    · rintro o r2 vs' S2 ⟨rfl, d2, gs, a6, a7, rfl, e2, hgn, hgl, hgc⟩
      have d2l : d2.length < 256 := by
        have := congrArg List.length e2
        rw [List.length_append, List.length_cons, kl] at this
        omega
      simp_arith! [er]
      refine wforM (enc := D.int) (xs := rm) [5, 7] [.ow (mapD D.bl gs), a7] (fun r vs' S' => S' = S2 ∧ ∃ (d3 : List Int) (gs : List (Int × Bool)) (a7 : Sl), vs' = [.ow (mapD D.bl gs), a7] ∧ d3 ++ r = rm ∧ (akeys gs).Nodup ∧ gs.length ≤ d2.length * 4 + d3.length ∧ ∀ s, s ∈ akeys gs ↔ (∃ o ∈ d2, ∃ v ∈ rm, s = o + u.1 * v) ∨ ∃ v ∈ d3, s = o + u.1 * v) rfl ⟨rfl, [], gs, _, rfl, rfl, hgn, by simpa using hgl, fun s => by rw [hgc]; simp⟩ ?_ ?_
      · rintro v r3 vs' S3 ⟨rfl, d3, gs, a7, rfl, e3, hgn, hgl, hgc⟩
        have d3l : d3.length < 4 := by
          have := congrArg List.length e3
          rw [List.length_append, List.length_cons] at this
          omega
        have := hrb v (by rw [← e3]; simp)
        have mul : mulOk u.1 v := .inl (.inr (by omega))
        have pm : putC (.bl true) (mapD D.bl gs) (.int (o + u.1 * v)) = fun Q => gs.length < sizeLine ∧ Q (mapD D.bl (aput gs (o + u.1 * v) true)) := funext fun Q => propext (p_mapI hgn)
        simp_arith! [mul, pm]
        refine ⟨by have := line100k; omega, [_, _], rfl, d3 ++ [v], _, _, rfl, by rw [List.append_assoc]; exact e3, nodup_aput hgn, ?_, fun s => ?_⟩
        · have := aput_len (ps := gs) (k := o + u.1 * v) (v := true)
          rw [List.length_append, List.length_singleton]
          omega
        · have : s ∈ akeys (aput gs (o + u.1 * v) true) ↔ s ∈ akeys gs ∨ s = o + u.1 * v := by
            rw [akeys_aput]
            split
            · rename_i h
              exact ⟨.inl, fun z => z.elim id fun z => z ▸ h⟩
            · rw [List.mem_append, List.mem_singleton]
          rw [this, hgc, or_assoc]
          refine or_congr Iff.rfl ?_
          constructor
          · rintro (⟨w, hw, e⟩ | e)
            · exact ⟨w, List.mem_append_left _ hw, e⟩
            · exact ⟨v, by simp, e⟩
          · rintro ⟨w, hw, e⟩
            rcases List.mem_append.mp hw with z | z
            · exact .inl ⟨w, z, e⟩
            · rw [List.mem_singleton.mp z] at e
              exact .inr e
      · rintro vs' S3 ⟨rfl, d3, gs, a7, rfl, e3, hgn, hgl, hgc⟩
        rw [List.append_nil] at e3
        subst e3
        simp_arith!
        refine ⟨[_, _, _], rfl, d2 ++ [o], gs, _, _, rfl, by rw [List.append_assoc]; exact e2, hgn, ?_, fun s => ?_⟩
        · rw [List.length_append, List.length_singleton]
          omega
        · rw [hgc]
          constructor
          · rintro (⟨w, hw, z⟩ | z)
            · exact ⟨w, List.mem_append_left _ hw, z⟩
            · exact ⟨o, by simp, z⟩
          · rintro ⟨w, hw, z⟩
            rcases List.mem_append.mp hw with y | y
            · exact .inl ⟨w, y, z⟩
            · rw [List.mem_singleton.mp y] at z
              exact .inr z
    · rintro vs' S2 ⟨rfl, d2, gs, a6, a7, rfl, e2, hgn, hgl, hgc⟩
      rw [List.append_nil] at e2
      subst e2
      simp_arith!
      refine ⟨[_, _, _, _, _, _], rfl, dn ++ [u], gs, _, _, _, _, _, rfl, e', hgn, ?_, fun s => ?_⟩
      · rw [List.length_append, List.length_singleton, Nat.pow_succ]
        rw [kl] at hgl
        exact Nat.le_trans hgl (Nat.mul_le_mul_right 4 hfl)
      · rw [hgc, comes_snoc, ro]
        exact ⟨fun ⟨o, ho, z⟩ => ⟨o, (hc o).mp ho, z⟩, fun ⟨o, ho, z⟩ => ⟨o, (hc o).mpr ho, z⟩⟩
  · rintro vs' S1 ⟨rfl, dn, fs, a3, a4, a5, a6, a7, rfl, e, hn, hfl, hc⟩
    rw [List.append_nil] at e
    subst e
    have ky : (fs.map fun p => (KeyEnc.enc p.1 : D)) = (akeys fs).map .int := by unfold akeys; rw [List.map_map]; rfl
    simp_arith! [ky]
    refine q (akeys fs) hn ?_ hc
    show (List.map _ _).length ≤ _
    rw [List.length_map]
    exact Nat.le_trans hfl (Nat.pow_le_pow_right (n := 4) (by decide) hl)
omit hT ht hl in
theorem rooms_ne : ∀ t ∈ ts, roomOf ps t.2 ≠ [] := fun u hu => by
  obtain ⟨r, er, hne, _⟩ := hr u.2 (List.mem_map_of_mem hu)
  show (aget ps u.2).getD [] ≠ []
  rw [er]
  exact hne
theorem skeep_ok : ∃ b : Bool, (b = true ↔ ∃ s, Comes ps ts s ∧ within lo hi s = true) ∧ Pure T (k + 2) "Sum.may_keep" [.ref t, roomsD ps] S (.fz (.bl b)) := by
  haveI := Classical.propDecidable (∃ s, Comes ps ts s ∧ within lo hi s = true)
  refine ⟨decide (∃ s, Comes ps ts s ∧ within lo hi s = true), decide_eq_true_iff, ?_⟩
  refine wf_def hT.F4 rfl ?_
  show WSs T (k + 1) M_Sum_may_keep [.va (.ref t), .va (roomsD ps), .no, .no, .no, .no, .no] S (retQ _)
  unfold M_Sum_may_keep
  have lk : ∀ d : D, List.lookup ("wish" : Str) [(("wish" : Str), d)] = some d := fun _ => rfl
  have n1 : ∀ d : D, List.lookup ("least" : Str) [(("wish" : Str), d)] = none := fun _ => rfl
  have n2 : ∀ d : D, List.lookup ("greatest" : Str) [(("wish" : Str), d)] = none := fun _ => rfl
  have n3 : ∀ d : D, List.lookup ("all_sums" : Str) [(("wish" : Str), d)] = none := fun _ => rfl
  have a1 : isAt "least" = false := by decide
  have a2 : isAt "greatest" = false := by decide
  have a3 : isAt "all_sums" = false := by decide
  have wd : (Wish.sum ts lo hi).d = .tup [.str "sum", .tup (ts.map termD), optD lo, optD hi] := rfl
  have rn := rooms_ne hr
  obtain ⟨f1, hf1, e1⟩ := sum_lo rn
  obtain ⟨f2, hf2, e2⟩ := sum_hi rn
  cases lo with
  | none =>
    cases hi with
    | none =>
      simp_arith! [asIns_of ht, hT.A, hT.M1, hT.M2, hT.M3, lk, n1, n2, n3, a1, a2, a3, wd, is_opt, look_opt, Option.isNone_none, Option.isNone_some]
      rw [decide_eq_true]
      exact ⟨_, ⟨f1, hf1, e1⟩, rfl⟩
    | some h =>
      simp_arith! [asIns_of ht, hT.A, hT.M1, hT.M2, hT.M3, lk, n1, n2, n3, a1, a2, a3, wd, is_opt, look_opt, Option.isNone_none, Option.isNone_some]
      refine (sleast_ok hT ht hl hr).elim ?_
      simp_arith! [look_opt, le_opt]
      rw [decide_eq_decide.mpr]
      constructor
      · exact fun z => ⟨_, ⟨f1, hf1, e1⟩, decide_eq_true z⟩
      · rintro ⟨s, ⟨f, hf, rfl⟩, z⟩
        have z : decide (sumZ ts f ≤ h) = true := z
        have := of_decide_eq_true z
        have := (sum_range rn hf).1
        omega
  | some l =>
    cases hi with
    | none =>
      simp_arith! [asIns_of ht, hT.A, hT.M1, hT.M2, hT.M3, lk, n1, n2, n3, a1, a2, a3, wd, is_opt, look_opt, Option.isNone_none, Option.isNone_some]
      refine (sgreat_ok hT ht hl hr).elim ?_
      simp_arith! [look_opt, ge_opt]
      rw [decide_eq_decide.mpr]
      constructor
      · exact fun z => ⟨_, ⟨f2, hf2, e2⟩, by show (decide (l ≤ sumHi ps ts) && true) = true; rw [Bool.and_true]; exact decide_eq_true z⟩
      · rintro ⟨s, ⟨f, hf, rfl⟩, z⟩
        have z : (decide (l ≤ sumZ ts f) && true) = true := z
        rw [Bool.and_true] at z
        have := of_decide_eq_true z
        have := (sum_range rn hf).2
        omega
    | some h =>
      simp_arith! [asIns_of ht, hT.A, hT.M1, hT.M2, hT.M3, lk, n1, n2, n3, a1, a2, a3, wd, is_opt, look_opt, Option.isNone_none, Option.isNone_some]
      refine sall_ok hT ht hl hr fun xs hxn hxl hx => ?_
      simp_arith!
      refine wforM (enc := D.int) (xs := xs) [6] [.no] (fun r vs' S' => S' = S ∧ ∃ (dn : List Int) (a6 : Sl), vs' = [a6] ∧ dn ++ r = xs ∧ ∀ s ∈ dn, within (some l) (some h) s = false) rfl ⟨rfl, [], _, rfl, rfl, by simp⟩ ?_ ?_
      · rintro s r vs' S1 ⟨rfl, dn, a6, rfl, e, hd⟩
        simp_arith!
        refine (within_ok hT.F6).elim ?_
        simp_arith!
        split
        · rename_i c
          simp_arith!
          rw [decide_eq_true]
          exact ⟨s, (hx s).mp (by rw [← e]; simp), c⟩
        · rename_i c
          simp_arith!
          refine ⟨[_], rfl, dn ++ [s], _, rfl, by rw [List.append_assoc]; exact e, fun y hy => ?_⟩
          rcases List.mem_append.mp hy with z | z
          · exact hd y z
          · rw [List.mem_singleton.mp z]
            exact Bool.eq_false_iff.mpr c
      · rintro vs' S1 ⟨rfl, dn, a6, rfl, e, hd⟩
        rw [List.append_nil] at e
        subst e
        simp_arith!
        rw [decide_eq_false]
        rintro ⟨s, hs, z⟩
        rw [hd s ((hx s).mpr hs)] at z
        cases z
theorem sbreak_ok : ∃ b : Bool, (b = true ↔ ∃ s, Comes ps ts s ∧ within lo hi s = false) ∧ Pure T (k + 2) "Sum.may_break" [.ref t, roomsD ps] S (.fz (.bl b)) := by
  have rn := rooms_ne hr
  obtain ⟨f1, hf1, e1⟩ := sum_lo rn
  obtain ⟨f2, hf2, e2⟩ := sum_hi rn
  refine ⟨(lo.any fun l => decide (sumLo ps ts < l)) || hi.any fun h => decide (h < sumHi ps ts), ?_, ?_⟩
  · constructor
    · intro h
      rw [Bool.or_eq_true] at h
      rcases h with h | h
      · cases lo with
        | none => cases h
        | some l =>
          have h := of_decide_eq_true h
          exact ⟨_, ⟨f1, hf1, e1⟩, by show (decide (l ≤ sumLo ps ts) && _) = false; rw [decide_eq_false (by omega), Bool.false_and]⟩
      · cases hi with
        | none => cases h
        | some g =>
          have h := of_decide_eq_true h
          exact ⟨_, ⟨f2, hf2, e2⟩, by show (_ && decide (sumHi ps ts ≤ g)) = false; rw [decide_eq_false (by omega), Bool.and_false]⟩
    · rintro ⟨s, ⟨f, hf, rfl⟩, z⟩
      have := sum_range rn hf
      unfold within at z
      rw [Bool.and_eq_false_iff] at z
      rw [Bool.or_eq_true]
      rcases z with z | z
      · cases lo with
        | none => cases z
        | some l =>
          have z := of_decide_eq_false z
          exact .inl (decide_eq_true (by omega))
      · cases hi with
        | none => cases z
        | some g =>
          have z := of_decide_eq_false z
          exact .inr (decide_eq_true (by omega))
  refine wf_def hT.F5 rfl ?_
  show WSs T (k + 1) (_ :: _ :: M_Sum_may_break.drop 2) [.va (.ref t), .va (roomsD ps), .no, .no, .no, .no] S (retQ _)
  have lk : ∀ d : D, List.lookup ("wish" : Str) [(("wish" : Str), d)] = some d := fun _ => rfl
  have n1 : ∀ d : D, List.lookup ("least" : Str) [(("wish" : Str), d)] = none := fun _ => rfl
  have n2 : ∀ d : D, List.lookup ("greatest" : Str) [(("wish" : Str), d)] = none := fun _ => rfl
  have a1 : isAt "least" = false := by decide
  have a2 : isAt "greatest" = false := by decide
  have wd : (Wish.sum ts lo hi).d = .tup [.str "sum", .tup (ts.map termD), optD lo, optD hi] := rfl
  have tail : ∀ b : Bool, b = (hi.any fun h => decide (h < sumHi ps ts)) → WSs T (k + 1) (M_Sum_may_break.drop 2) [.va (.ref t), .va (roomsD ps), .va (.str "sum"), .va (.tup (ts.map termD)), .va (optD lo), .va (optD hi)] S (retQ fun x S' => x = .fz (.bl b) ∧ S' = S) := fun b hb => by
    show WSs T (k + 1) [_] _ _ _
    cases hi with
    | none =>
      simp_arith! [isn_opt, look_opt, Option.isSome_none]
      rw [hb]
      rfl
    | some g =>
      simp_arith! [isn_opt, look_opt, Option.isSome_some, asIns_of ht, hT.M2, n2, a2]
      refine (sgreat_ok hT ht hl hr).elim ?_
      simp_arith! [look_opt, gt_opt]
      rw [hb]
      rfl
  cases lo with
  | none =>
    simp_arith! [asIns_of ht, hT.A, hT.M1, lk, n1, a1, wd, isn_opt, look_opt, Option.isSome_none]
    simp only [Option.any_none, Bool.false_or]
    exact tail _ rfl
  | some l =>
    simp_arith! [asIns_of ht, hT.A, hT.M1, lk, n1, a1, wd, isn_opt, look_opt, Option.isSome_some]
    refine (sleast_ok hT ht hl hr).elim ?_
    simp_arith! [look_opt, lt_opt]
    split
    · rename_i c
      simp_arith!
      rw [Option.any_some, decide_eq_true c, Bool.true_or]
    · rename_i c
      simp_arith!
      simp only [Option.any_some, decide_eq_false c, Bool.false_or]
      exact tail _ rfl
end

/-! Sk45: seats: the sort unlike. -/
open PySem PySem.Spec
open L2 (ixN atI)
/-! ### plain -/
theorem nodup_len {α : Type} [DecidableEq α] : ∀ {xs ys : List α}, xs.Nodup → (∀ x ∈ xs, x ∈ ys) → xs.length ≤ ys.length
  | [], _, _, _ => Nat.zero_le _
  | x :: xs, ys, h, hs => by
    rw [List.nodup_cons] at h
    have hx := hs x List.mem_cons_self
    have := nodup_len (xs := xs) (ys := ys.erase x) h.2 fun y hy => by
      refine (List.mem_erase_of_ne ?_).mpr (hs y (List.mem_cons_of_mem _ hy))
      rintro rfl
      exact h.1 hy
    rw [List.length_erase_of_mem hx] at this
    have : 0 < ys.length := List.length_pos_of_mem hx
    rw [List.length_cons]
    omega
abbrev Seats := List (Int × Nm)
abbrev Tried := List (Int × Bool)
section
variable (ps : Rooms) (ns : List Nm) (V : List Int)
/-- who sits where: but for the tried, no cell sits twice -/
structure SitOk (M : Seats) (t : Int → Prop) : Prop where
  nd : (akeys M).Nodup
  val : ∀ v d, aget M v = some d → d ∈ ns ∧ v ∈ roomOf ps d
  inj : ∀ v w d, ¬ t v → ¬ t w → aget M v = some d → aget M w = some d → v = w
end
def Sits (M : Seats) (t : Int → Prop) (d : Nm) : Prop := ∃ v, ¬ t v ∧ aget M v = some d
section
variable {ps : Rooms} {ns : List Nm}
structure Won (ps : Rooms) (ns : List Nm) (M : Seats) (t : Int → Prop) (c : Nm) (M' : Seats) : Prop where
  ok : SitOk ps ns M' t
  same : ∀ v, t v → aget M' v = aget M v
  who : ∀ d, Sits M' t d ↔ Sits M t d ∨ d = c
structure Lost (ps : Rooms) (M : Seats) (t : Int → Prop) (c : Nm) (t' : Int → Prop) : Prop where
  sub : ∀ v, t v → t' v
  cl : ∀ v ∈ roomOf ps c, t' v
  more : ∀ v, t' v → ¬ t v → ∃ d, aget M v = some d ∧ ∀ w ∈ roomOf ps d, t' w
theorem SitOk.mono {M : Seats} {t t1 : Int → Prop} (h : SitOk ps ns M t) (s : ∀ v, t v → t1 v) : SitOk ps ns M t1 := ⟨h.nd, h.val, fun v w d hv hw => h.inj v w d (fun z => hv (s v z)) fun z => hw (s w z)⟩
theorem Won.mono {M M' : Seats} {t t1 : Int → Prop} {c : Nm} (h : SitOk ps ns M t) (nc : ¬ Sits M t c) (s : ∀ v, t v → t1 v) (w : Won ps ns M t1 c M') : Won ps ns M t c M' := by
  have up : ∀ {N : Seats} {d : Nm}, Sits N t1 d → Sits N t d := fun ⟨v, hv, e⟩ => ⟨v, fun z => hv (s v z), e⟩
  refine ⟨⟨w.ok.nd, w.ok.val, fun v u d hv hu ev eu => ?_⟩, fun v hv => w.same v (s v hv), fun d => ⟨?_, ?_⟩⟩
  · by_cases tv : t1 v
    · by_cases tu : t1 u
      · rw [w.same v tv] at ev
        rw [w.same u tu] at eu
        exact h.inj v u d hv hu ev eu
      · exfalso
        rw [w.same v tv] at ev
        rcases (w.who d).mp ⟨u, tu, eu⟩ with ⟨x, hx, ex⟩ | e
        · have := h.inj v x d hv (fun z => hx (s x z)) ev ex
          exact hx (this ▸ tv)
        · exact nc ⟨v, hv, e ▸ ev⟩
    · by_cases tu : t1 u
      · exfalso
        rw [w.same u tu] at eu
        rcases (w.who d).mp ⟨v, tv, ev⟩ with ⟨x, hx, ex⟩ | e
        · have := h.inj u x d hu (fun z => hx (s x z)) eu ex
          exact hx (this ▸ tu)
        · exact nc ⟨u, hu, e ▸ eu⟩
      · exact w.ok.inj v u d tv tu ev eu
  · rintro ⟨v, hv, e⟩
    by_cases tv : t1 v
    · rw [w.same v tv] at e
      exact .inl ⟨v, hv, e⟩
    · exact ((w.who d).mp ⟨v, tv, e⟩).imp up id
  · rintro (⟨v, hv, e⟩ | e)
    · by_cases tv : t1 v
      · exact ⟨v, hv, by rw [w.same v tv]; exact e⟩
      · exact up ((w.who d).mpr (.inl ⟨v, tv, e⟩))
    · exact up ((w.who d).mpr (.inr e))
theorem won_free {M : Seats} {t : Int → Prop} {c : Nm} {v : Int} (h : SitOk ps ns M t) (nc : ¬ Sits M t c) (hv : ¬ t v) (e : aget M v = none) (hc : c ∈ ns) (hr : v ∈ roomOf ps c) : Won ps ns M t c (aput M v c) := by
  refine ⟨⟨nodup_aput h.nd, fun u d z => ?_, fun u w d hu hw eu ew => ?_⟩, fun u hu => ?_, fun d => ⟨?_, ?_⟩⟩
  · rw [aget_aput] at z
    split at z
    · rename_i q
      cases z
      exact ⟨hc, q ▸ hr⟩
    · exact h.val u d z
  · rw [aget_aput] at eu ew
    split at eu
    · rename_i q
      split at ew
      · rename_i q2
        rw [← q, ← q2]
      · cases eu
        exact (nc ⟨w, hw, ew⟩).elim
    · split at ew
      · cases ew
        exact (nc ⟨u, hu, eu⟩).elim
      · exact h.inj u w d hu hw eu ew
  · rw [aget_aput, if_neg]
    rintro rfl
    exact hv hu
  · rintro ⟨u, hu, z⟩
    rw [aget_aput] at z
    split at z
    · cases z
      exact .inr rfl
    · exact .inl ⟨u, hu, z⟩
  · rintro (⟨u, hu, z⟩ | z)
    · refine ⟨u, hu, ?_⟩
      rw [aget_aput, if_neg]
      · exact z
      · rintro rfl
        rw [e] at z
        cases z
    · exact ⟨v, hv, by rw [aget_aput, if_pos rfl, z]⟩
theorem won_take {M M1 : Seats} {t t1 : Int → Prop} {c d : Nm} {v : Int} (h : SitOk ps ns M t) (nc : ¬ Sits M t c) (hv : ¬ t v) (e : aget M v = some d) (hc : c ∈ ns) (hr : v ∈ roomOf ps c) (ht : ∀ u, t1 u ↔ t u ∨ u = v)
    (w : Won ps ns M t1 d M1) : Won ps ns M t c (aput M1 v c) := by
  have up : ∀ {N : Seats} {d : Nm}, Sits N t1 d → Sits N t d := fun ⟨v, hv, e⟩ => ⟨v, fun z => hv ((ht v).mpr (.inl z)), e⟩
  have n1 : ∀ {u}, ¬ t u → u ≠ v → ¬ t1 u := fun h1 h2 z => ((ht _).mp z).elim h1 h2
  have nc1 : ¬ Sits M1 t1 c := fun z => ((w.who c).mp z).elim (fun z => nc (up z)) fun z => nc ⟨v, hv, z ▸ e⟩
  refine ⟨⟨nodup_aput w.ok.nd, fun u d z => ?_, fun u x d hu hx eu ex => ?_⟩, fun u hu => ?_, fun b => ⟨?_, ?_⟩⟩
  · rw [aget_aput] at z
    split at z
    · rename_i q
      cases z
      exact ⟨hc, q ▸ hr⟩
    · exact w.ok.val u d z
  · rw [aget_aput] at eu ex
    split at eu
    · rename_i q
      split at ex
      · rename_i q2
        rw [← q, ← q2]
      · rename_i q2
        cases eu
        exact (nc1 ⟨x, n1 hx fun z => q2 z.symm, ex⟩).elim
    · rename_i q
      split at ex
      · cases ex
        exact (nc1 ⟨u, n1 hu fun z => q z.symm, eu⟩).elim
      · rename_i q2
        exact w.ok.inj u x d (n1 hu fun z => q z.symm) (n1 hx fun z => q2 z.symm) eu ex
  · rw [aget_aput, if_neg]
    · exact w.same u ((ht u).mpr (.inl hu))
    · rintro rfl
      exact hv hu
  · rintro ⟨u, hu, z⟩
    rw [aget_aput] at z
    split at z
    · cases z
      exact .inr rfl
    · rename_i q
      rcases (w.who b).mp ⟨u, n1 hu fun z => q z.symm, z⟩ with y | y
      · exact .inl (up y)
      · exact .inl ⟨v, hv, y ▸ e⟩
  · rintro (⟨u, hu, z⟩ | z)
    · by_cases q : u = v
      · subst q
        have z2 : d = b := by rw [e] at z; injection z
        subst z2
        obtain ⟨x, hx, ex⟩ := (w.who d).mpr (.inr rfl)
        refine ⟨x, fun y => hx ((ht x).mpr (.inl y)), ?_⟩
        rw [aget_aput, if_neg]
        · exact ex
        · rintro rfl
          exact hx ((ht u).mpr (.inr rfl))
      · obtain ⟨x, hx, ex⟩ := (w.who b).mpr (.inl ⟨u, n1 hu q, z⟩)
        refine ⟨x, fun y => hx ((ht x).mpr (.inl y)), ?_⟩
        rw [aget_aput, if_neg]
        · exact ex
        · rintro rfl
          exact hx ((ht v).mpr (.inr rfl))
    · exact ⟨v, hv, by rw [aget_aput, if_pos rfl, z]⟩
/-- what is found where all cells have been seated -/
def Apart (ps : Rooms) (ns : List Nm) : Prop := ∃ g : Nm → Int, (∀ n ∈ ns, g n ∈ roomOf ps n) ∧ ∀ n ∈ ns, ∀ m ∈ ns, g n = g m → n = m
theorem apart_of {M : Seats} (h : SitOk ps ns M fun _ => False) (all : ∀ n ∈ ns, Sits M (fun _ => False) n) : Apart ps ns := by
  haveI := fun n => Classical.propDecidable (∃ v, aget M v = some n)
  refine ⟨fun n => if z : ∃ v, aget M v = some n then z.choose else 0, fun n hn => ?_, fun n hn m hm e => ?_⟩
  · obtain ⟨v, _, hv⟩ := all n hn
    have z : ∃ v, aget M v = some n := ⟨v, hv⟩
    dsimp only
    rw [dif_pos z]
    exact (h.val _ _ z.choose_spec).2
  · obtain ⟨v, _, hv⟩ := all n hn
    obtain ⟨w, _, hw⟩ := all m hm
    have z : ∃ v, aget M v = some n := ⟨v, hv⟩
    have y : ∃ v, aget M v = some m := ⟨w, hw⟩
    dsimp only at e
    rw [dif_pos z, dif_pos y] at e
    have a := z.choose_spec
    have b := y.choose_spec
    rw [e, b] at a
    injection a with a
    exact a.symm
theorem not_apart {M : Seats} {c : Nm} {T' : List Int} (h : SitOk ps ns M fun _ => False) (nc : ¬ Sits M (fun _ => False) c) (hc : c ∈ ns) (hT : T'.Nodup) (l : Lost ps M (fun _ => False) c (· ∈ T')) : ¬ Apart ps ns := by
  rintro ⟨g, g1, g2⟩
  have key : ∀ v ∈ T', ∃ d, aget M v = some d ∧ ∀ w ∈ roomOf ps d, w ∈ T' := fun v hv => l.more v hv id
  let m : Int → Nm := fun v => (aget M v).getD []
  have hm : ∀ v ∈ T', aget M v = some (m v) := fun v hv => by
    obtain ⟨d, hd, _⟩ := key v hv
    show _ = some ((aget M v).getD [])
    rw [hd]
    rfl
  have nd : (g c :: T'.map fun v => g (m v)).Nodup := by
    rw [List.nodup_cons]
    constructor
    · intro z
      obtain ⟨v, hv, e⟩ := List.mem_map.mp z
      have := g2 _ (h.val v _ (hm v hv)).1 c hc e
      exact nc ⟨v, id, by rw [hm v hv, this]⟩
    · rw [List.nodup_iff_pairwise_ne] at hT ⊢
      rw [List.pairwise_map]
      refine List.Pairwise.imp_of_mem (fun {a b} ha hb hab e => ?_) hT
      have := g2 _ (h.val a _ (hm a ha)).1 _ (h.val b _ (hm b hb)).1 e
      exact hab (h.inj a b (m a) id id (hm a ha) (by rw [this]; exact hm b hb))
  have := nodup_len (ys := T') nd fun x hx => by
    rcases List.mem_cons.mp hx with e | z
    · rw [e]
      exact l.cl _ (g1 c hc)
    · obtain ⟨v, hv, rfl⟩ := List.mem_map.mp z
      obtain ⟨d, hd, hw⟩ := key v hv
      have e : m v = d := by
        have := hm v hv
        rw [hd] at this
        injection this with this
        exact this.symm
      show g (m v) ∈ T'
      rw [e]
      exact hw _ (g1 d (h.val v d hd).1)
  rw [List.length_cons, List.length_map] at this
  omega
end
/-! ### the walk -/
theorem da_set_ne {S : Sto} {i j : Nat} {o : O} (h : i ≠ j) : (S.set i o)[j]? = S[j]? := List.getElem?_set_ne h
/-- the store, but for two -/
def Dq2 (S S' : Sto) (s r : Nat) : Prop := S'.length = S.length ∧ ∀ j, j ≠ s → j ≠ r → S'[j]? = S[j]?
def freeN (M : Seats) (T : Tried) : Nat := ((akeys M).filter fun v => decide (v ∉ akeys T)).length
theorem free_lt {M : Seats} {T : Tried} {v : Int} {d : Nm} (h : aget M v = some d) (hv : v ∉ akeys T) : freeN M (aput T v true) < freeN M T := by
  unfold freeN
  have hk : v ∈ akeys M := aget_key h
  have key : ∀ l : List Int, (∀ u ∈ l.filter fun u => decide (u ∉ akeys (aput T v true)), u ∈ l.filter fun u => decide (u ∉ akeys T)) := fun l u hu => by
    rw [List.mem_filter, decide_eq_true_eq] at hu ⊢
    refine ⟨hu.1, fun z => hu.2 ?_⟩
    rw [akeys_aput]
    split
    · exact z
    · exact List.mem_append_left _ z
  have lt : ∀ l : List Int, v ∈ l → (l.filter fun u => decide (u ∉ akeys (aput T v true))).length < (l.filter fun u => decide (u ∉ akeys T)).length := by
    have ka : v ∈ akeys (aput T v true) := by rw [akeys_aput]; split; · assumption
                                              · simp
    have le : ∀ l : List Int, (l.filter fun u => decide (u ∉ akeys (aput T v true))).length ≤ (l.filter fun u => decide (u ∉ akeys T)).length := fun l => by
      induction l with
      | nil => exact Nat.le_refl _
      | cons u l ih =>
        rw [List.filter_cons, List.filter_cons]
        by_cases z : u ∈ akeys T
        · have z2 : u ∈ akeys (aput T v true) := by rw [akeys_aput]; split; · exact z
                                                    · exact List.mem_append_left _ z
          rw [if_neg (by simpa using z2), if_neg (by simpa using z)]
          exact ih
        · rw [if_pos (show decide (u ∉ akeys T) = true from decide_eq_true z)]
          split
          · rw [List.length_cons, List.length_cons]; omega
          · rw [List.length_cons]; omega
    intro l hl
    induction l with
    | nil => cases hl
    | cons u l ih =>
      rw [List.filter_cons, List.filter_cons]
      by_cases e : u = v
      · subst e
        rw [if_neg (by simpa using ka), if_pos (show decide (u ∉ akeys T) = true from decide_eq_true hv), List.length_cons]
        exact Nat.lt_succ_of_le (le l)
      · have hl' : v ∈ l := (List.mem_cons.mp hl).elim (fun z => (e z.symm).elim) id
        have ih := ih hl'
        by_cases z : u ∈ akeys T
        · have z2 : u ∈ akeys (aput T v true) := by rw [akeys_aput]; split; · exact z
                                                    · exact List.mem_append_left _ z
          rw [if_neg (by simpa using z2), if_neg (by simpa using z)]
          exact ih
        · rw [if_pos (show decide (u ∉ akeys T) = true from decide_eq_true z)]
          split
          · rw [List.length_cons, List.length_cons]; omega
          · rw [List.length_cons]; omega
  exact lt _ hk
theorem free_le {M : Seats} {T T' : Tried} (h : ∀ v ∈ akeys T, v ∈ akeys T') : freeN M T' ≤ freeN M T := by
  unfold freeN
  generalize akeys M = l
  induction l with
  | nil => exact Nat.le_refl _
  | cons u l ih =>
    rw [List.filter_cons, List.filter_cons]
    by_cases z : u ∈ akeys T
    · rw [if_neg (by simpa using h u z), if_neg (by simpa using z)]
      exact ih
    · rw [if_pos (show decide (u ∉ akeys T) = true from decide_eq_true z)]
      split
      · rw [List.length_cons, List.length_cons]; omega
      · rw [List.length_cons]; omega
theorem mem_aput {T : Tried} {v u : Int} {b : Bool} : u ∈ akeys (aput T v b) ↔ u ∈ akeys T ∨ u = v := by
  rw [akeys_aput]
  split
  · rename_i h
    exact ⟨.inl, fun z => z.elim id fun z => z ▸ h⟩
  · rw [List.mem_append, List.mem_singleton]
theorem Dq2.refl {S : Sto} {s r : Nat} : Dq2 S S s r := ⟨rfl, fun _ _ _ => rfl⟩
theorem Dq2.trans {S S1 S2 : Sto} {s r : Nat} (a : Dq2 S S1 s r) (b : Dq2 S1 S2 s r) : Dq2 S S2 s r := ⟨b.1.trans a.1, fun j h1 h2 => (b.2 j h1 h2).trans (a.2 j h1 h2)⟩
theorem Dq2.set1 {S S1 : Sto} {s r : Nat} {o : O} (a : Dq2 S S1 s r) : Dq2 S (S1.set s o) s r := ⟨by rw [List.length_set]; exact a.1, fun j h1 h2 => by rw [List.getElem?_set_ne (Ne.symm h1)]; exact a.2 j h1 h2⟩
theorem Dq2.set2 {S S1 : Sto} {s r : Nat} {o : O} (a : Dq2 S S1 s r) : Dq2 S (S1.set r o) s r := ⟨by rw [List.length_set]; exact a.1, fun j h1 h2 => by rw [List.getElem?_set_ne (Ne.symm h2)]; exact a.2 j h1 h2⟩
def SeatedS (Tb : Tab) (ps : Rooms) (ns : List Nm) (V : List Int) (s r lvl fr : Nat) : Prop := ∀ (S : Sto) (M : Seats) (T : Tried) (c : Nm) (Q : Op → Sto → Prop),
  S[s]? = some (.da (mapD strD M)) → S[r]? = some (.da (mapD D.bl T)) → SitOk ps ns M (· ∈ akeys T) → ¬ Sits M (· ∈ akeys T) c → c ∈ ns → (akeys T).Nodup → (∀ v ∈ akeys T, v ∈ V) → freeN M T ≤ fr →
  (∀ (M' : Seats) (T' : Tried) (S' : Sto), Dq2 S S' s r → S'[s]? = some (.da (mapD strD M')) → S'[r]? = some (.da (mapD D.bl T')) → Won ps ns M (· ∈ akeys T) c M' → Q (.fz (.bl true)) S') →
  (∀ (T' : Tried) (S' : Sto), Dq2 S S' s r → S'[s]? = some (.da (mapD strD M)) → S'[r]? = some (.da (mapD D.bl T')) → (akeys T').Nodup → (∀ v ∈ akeys T', v ∈ V) → Lost ps M (· ∈ akeys T) c (· ∈ akeys T') → Q (.fz (.bl false)) S') →
  WF Tb lvl "seated" [strD c, roomsD ps, .ref s, .ref r] S Q
theorem seated_step {Tb : Tab} (hF : Tb.F "seated" = some ⟨5, 4, P_seated⟩) {ps : Rooms} {ns : List Nm} {V : List Int} (hns : ∀ n ∈ ns, ∃ x, aget ps n = some x) (hV : ∀ n ∈ ns, ∀ v ∈ roomOf ps n, v ∈ V) (hVl : V.length ≤ 900) {s r : Nat} (hsr : s ≠ r) {lvl fr : Nat}
    (rec : ∀ fr', fr' < fr → SeatedS Tb ps ns V s r lvl fr') : SeatedS Tb ps ns V s r (lvl + 1) fr := by
  intro S M T c Q hs hr ok nc hc hT hTV hfr q1 q2
  refine wf_def hF rfl ?_
  show WSs Tb lvl P_seated [.va (strD c), .va (roomsD ps), .va (.ref s), .va (.ref r), .no] S (retQ Q)
  unfold P_seated
  obtain ⟨rm, er⟩ := hns c hc
  have ro : roomOf ps c = rm := by unfold roomOf; rw [er]; rfl
  have hMl : M.length ≤ 900 := by
    have := nodup_len (ys := V) ok.nd fun v hv => by
      obtain ⟨d, hd⟩ := aget_some hv
      exact hV d (ok.val v d hd).1 v (ok.val v d hd).2
    unfold akeys at this
    rw [List.length_map] at this
    omega
  simp_arith! [er]
  refine wforM (enc := D.int) (xs := rm) [4] [.no] (fun rr vs S' => ∃ (dn : List Int) (T' : Tried) (a4 : Sl), vs = [a4] ∧ dn ++ rr = rm ∧ Dq2 S S' s r ∧ S'[s]? = some (.da (mapD strD M)) ∧ S'[r]? = some (.da (mapD D.bl T')) ∧ (akeys T').Nodup ∧ (∀ v ∈ akeys T', v ∈ V) ∧ (∀ v ∈ akeys T, v ∈ akeys T') ∧ (∀ v ∈ dn, v ∈ akeys T') ∧ (∀ v, v ∈ akeys T' → v ∉ akeys T → ∃ d, aget M v = some d ∧ ∀ w ∈ roomOf ps d, w ∈ akeys T')) rfl ⟨[], T, _, rfl, rfl, .refl, hs, hr, hT, hTV, fun _ z => z, by simp, fun v a b => (b a).elim⟩ ?_ ?_
  · rintro v rr vs S1 ⟨dn, T1, a4, rfl, e, dq, hs1, hr1, nd1, tv1, sub1, dn1, more1⟩
    have vr : v ∈ roomOf ps c := by rw [ro, ← e]; simp
    have hT1 : T1.length ≤ 900 := by
      have := nodup_len (ys := V) nd1 tv1
      unfold akeys at this
      rw [List.length_map] at this
      omega
    have lr := fun ρ => look_da (ρ := ρ) hr1
    have cr := fun ρ => cont_da (ρ := ρ) hr1
    have pm : putC (.bl true) (mapD D.bl T1) (.int v) = fun Q => T1.length < sizeLine ∧ Q (mapD D.bl (aput T1 v true)) := funext fun Q => propext (p_mapI nd1)
    have e' : (dn ++ [v]) ++ rr = rm := by rw [List.append_assoc]; exact e
    by_cases hv : v ∈ akeys T1
    · simp_arith! [lr, hv, decide_true]
      refine ⟨[_], rfl, dn ++ [v], T1, _, rfl, e', dq, hs1, hr1, nd1, tv1, sub1, fun u hu => ?_, more1⟩
      rcases List.mem_append.mp hu with z | z
      · exact dn1 u z
      · rw [List.mem_singleton.mp z]; exact hv
    have hv0 : v ∉ akeys T := fun z => hv (sub1 v z)
    have ok1 : SitOk ps ns M (· ∈ akeys T1) := ok.mono sub1
    have nc1 : ¬ Sits M (· ∈ akeys T1) c := fun ⟨u, hu, z⟩ => nc ⟨u, fun y => hu (sub1 u y), z⟩
    have g1 := get_set (o' := O.da (mapD D.bl (aput T1 v true))) hr1
    have g2 : (S1.set r (O.da (mapD D.bl (aput T1 v true))))[s]? = some (.da (mapD strD M)) := by rw [List.getElem?_set_ne (Ne.symm hsr)]; exact hs1
    have dq2 : Dq2 S (S1.set r (O.da (mapD D.bl (aput T1 v true)))) s r := dq.set2
    generalize eS2 : S1.set r (O.da (mapD D.bl (aput T1 v true))) = S2 at g1 g2 dq2
    have ls := fun ρ => look_da (ρ := ρ) g2
    have cs := fun ρ => cont_da (ρ := ρ) g2
    have st1 := fun ρ => setC_da (ρ := ρ) (x := mapD D.bl (aput T1 v true)) hr1
    simp_arith! [lr, cr, hv, decide_false, pm, st1, eS2, ls]
    have won : ∀ (M1 : Seats) (S3 : Sto), Dq2 S S3 s r → S3[s]? = some (.da (mapD strD M1)) → (∃ T3 : Tried, S3[r]? = some (.da (mapD D.bl T3))) → Won ps ns M (· ∈ akeys T1) c (aput M1 v c) → Q (.fz (.bl true)) (S3.set s (.da (mapD strD (aput M1 v c)))) := by
      intro M1 S3 dq3 hs3 ⟨T3, hr3⟩ w
      exact q1 _ T3 _ dq3.set1 (get_set hs3) (by rw [List.getElem?_set_ne hsr]; exact hr3) (Won.mono ok nc sub1 w)
    have pw : ∀ M1 : Seats, (akeys M1).Nodup → putC (strD c) (mapD strD M1) (.int v) = fun Q => M1.length < sizeLine ∧ Q (mapD strD (aput M1 v c)) := fun M1 nd3 => funext fun Q => propext (p_mapI nd3)
    have lm := line1m
    cases em : aget M v with
    | none =>
      have hk : v ∉ akeys M := aget_none.mp em
      have st3 := fun ρ => setC_da (ρ := ρ) (x := mapD strD (aput M v c)) g2
      simp_arith! [hk, decide_false, cs, st3, pw M ok.nd]
      exact won M S2 dq2 g2 ⟨_, g1⟩ (won_free ok1 nc1 hv em hc vr)
    | some d =>
      have hk : v ∈ akeys M := aget_key em
      simp_arith! [hk, decide_true, cs, em]
      have mem1 : ∀ u, u ∈ akeys (aput T1 v true) ↔ u ∈ akeys T1 ∨ u = v := fun u => mem_aput
      have lt : freeN M (aput T1 v true) < fr := Nat.lt_of_lt_of_le (free_lt em hv) (Nat.le_trans (free_le sub1) hfr)
      refine rec _ lt S2 M _ d _ g2 g1 (ok1.mono fun u z => (mem1 u).mpr (.inl z)) ?_ (ok.val v d em).1 (nodup_aput nd1) (fun u z => ((mem1 u).mp z).elim (tv1 u) fun y => y ▸ hV c hc v vr) (Nat.le_refl _) ?_ ?_
      · rintro ⟨u, hu, z⟩
        have := ok.inj u v d (fun y => hu ((mem1 u).mpr (.inl (sub1 u y)))) hv0 z em
        exact hu ((mem1 u).mpr (.inr this))
      · intro M1 T3 S3 dq3 hs3 hr3 w
        have hl3 : M1.length ≤ 900 := by
          have := nodup_len (ys := V) w.ok.nd fun v hv => by
            obtain ⟨d, hd⟩ := aget_some hv
            exact hV d (w.ok.val v d hd).1 v (w.ok.val v d hd).2
          unfold akeys at this
          rw [List.length_map] at this
          omega
        have cs3 := fun ρ => cont_da (ρ := ρ) hs3
        have st3 := fun ρ => setC_da (ρ := ρ) (x := mapD strD (aput M1 v c)) hs3
        simp_arith! [cs3, st3, pw M1 w.ok.nd]
        exact won M1 S3 (dq2.trans dq3) hs3 ⟨_, hr3⟩ (won_take ok1 nc1 hv em hc vr mem1 w)
      · intro T3 S3 dq3 hs3 hr3 nd3 tv3 l
        simp_arith!
        refine ⟨[_], rfl, dn ++ [v], T3, _, rfl, e', dq2.trans dq3, hs3, hr3, nd3, tv3, fun u hu => l.sub u ((mem1 u).mpr (.inl (sub1 u hu))), fun u hu => ?_, fun u hu hnu => ?_⟩
        · rcases List.mem_append.mp hu with z | z
          · exact l.sub u ((mem1 u).mpr (.inl (dn1 u z)))
          · exact l.sub u ((mem1 u).mpr (.inr (List.mem_singleton.mp z)))
        · by_cases h1 : u ∈ akeys (aput T1 v true)
          · rcases (mem1 u).mp h1 with z | z
            · obtain ⟨b, hb, hw⟩ := more1 u z hnu
              exact ⟨b, hb, fun w hw' => l.sub w ((mem1 w).mpr (.inl (hw w hw')))⟩
            · exact ⟨d, z ▸ em, l.cl⟩
          · exact l.more u hu h1
  · rintro vs S1 ⟨dn, T1, a4, rfl, e, dq, hs1, hr1, nd1, tv1, sub1, dn1, more1⟩
    rw [List.append_nil] at e
    simp_arith!
    exact q2 T1 S1 dq hs1 hr1 nd1 tv1 ⟨sub1, fun v hv => dn1 v (by rw [e, ← ro]; exact hv), more1⟩
theorem seated_ok {Tb : Tab} (hF : Tb.F "seated" = some ⟨5, 4, P_seated⟩) {ps : Rooms} {ns : List Nm} {V : List Int} (hns : ∀ n ∈ ns, ∃ x, aget ps n = some x) (hV : ∀ n ∈ ns, ∀ v ∈ roomOf ps n, v ∈ V) (hVl : V.length ≤ 900) {s r : Nat} (hsr : s ≠ r) :
    ∀ {fr lvl : Nat}, fr < lvl → SeatedS Tb ps ns V s r lvl fr
  | fr, 0, h => (Nat.not_lt_zero _ h).elim
  | fr, lvl + 1, h => seated_step hF hns hV hVl hsr fun fr' h' => seated_ok hF hns hV hVl hsr (by omega)

/-! Sk46: the sort unlike, its object. -/
open PySem PySem.Spec
open L2 (ixN atI)
theorem ext_of {S S' : Sto} (hl : S.length ≤ S'.length) (h : ∀ j, j < S.length → S'[j]? = S[j]?) : Ext S S' := by
  refine ⟨S'.drop S.length, List.ext_getElem? fun j => ?_⟩
  by_cases hj : j < S.length
  · rw [List.getElem?_append_left hj]
    exact h j hj
  · rw [List.getElem?_append_right (by omega), List.getElem?_drop]
    congr 1
    omega
/-! ### each once -/
theorem dd_go {acc dn xs : List Int} (h1 : acc.Sublist dn) (h2 : acc.Nodup) : (xs.foldl PyProof.Rows.step_dedup acc).Sublist (dn ++ xs) ∧ (xs.foldl PyProof.Rows.step_dedup acc).Nodup ∧ ((acc ++ xs).Nodup → xs.foldl PyProof.Rows.step_dedup acc = acc ++ xs) := by
  induction xs generalizing acc dn with
  | nil => simpa using ⟨h1, h2⟩
  | cons x xs ih =>
    rw [List.foldl_cons]
    have e : dn ++ x :: xs = (dn ++ [x]) ++ xs := by rw [List.append_assoc]; rfl
    rw [e]
    unfold PyProof.Rows.step_dedup
    by_cases hx : acc.any (· == x) = true
    · rw [if_pos hx]
      obtain ⟨i1, i2, i3⟩ := ih (acc := acc) (dn := dn ++ [x]) (h1.trans (List.sublist_append_left _ _)) h2
      refine ⟨i1, i2, fun z => ?_⟩
      exfalso
      obtain ⟨y, hy, ey⟩ := List.any_eq_true.mp hx
      rw [eq_of_beq ey] at hy
      rw [List.nodup_append] at z
      exact z.2.2 x hy x List.mem_cons_self rfl
    · rw [if_neg hx]
      have nx : x ∉ acc := fun z => hx (List.any_eq_true.mpr ⟨x, z, beq_self_eq_true x⟩)
      obtain ⟨i1, i2, i3⟩ := ih (acc := acc ++ [x]) (dn := dn ++ [x]) (h1.append (List.Sublist.refl _)) (by
        rw [List.nodup_append]
        refine ⟨h2, by simp, fun a ha b hb e => ?_⟩
        rw [List.mem_singleton.mp hb] at e
        exact nx (e ▸ ha))
      refine ⟨i1, i2, fun z => ?_⟩
      have e2 : acc ++ x :: xs = (acc ++ [x]) ++ xs := by rw [List.append_assoc]; rfl
      rw [e2] at z ⊢
      exact i3 z
theorem dd_len {xs : List Int} : (ddI xs).length = xs.length ↔ xs.Nodup := by
  obtain ⟨h1, h2, h3⟩ := dd_go (xs := xs) (List.Sublist.refl []) List.nodup_nil
  constructor
  · intro e
    have : ddI xs = xs := h1.eq_of_length e
    rw [← this]
    exact h2
  · intro z
    have : ddI xs = xs := h3 z
    rw [this]
theorem o_lenset {xs : List Int} {Q : Op → Prop} : ob (bfD .lenset (.lst (xs.map .int))) Q ↔ xs.length ≤ 4000 ∧ Q (.fz (.int ((ddI xs).length : Nat))) := by
  show ob (((intsD (xs.map .int)).filter fun ns => decide (ns.length ≤ 4000)).map _) Q ↔ _
  rw [ints_of]
  by_cases h : xs.length ≤ 4000
  · rw [Option.filter_some, if_pos (decide_eq_true h), Option.map_some, ob_some]
    exact ⟨fun z => ⟨h, z⟩, fun z => z.2⟩
  · rw [Option.filter_some, if_neg (by simpa using h)]
    exact ⟨fun z => (ob_none.mp z).elim, fun z => (h z.1).elim⟩
/-! ### what is asked of the rooms -/
def Shared2 (ps : Rooms) (ns : List Nm) : Prop := ∃ n ∈ ns, ∃ m ∈ ns, n ≠ m ∧ ∃ v, v ∈ roomOf ps n ∧ v ∈ roomOf ps m
theorem fits_map {ps : Rooms} {ns : List Nm} {g : Nm → Int} (h : ∀ n ∈ ns, g n ∈ roomOf ps n) : Fits (cellsBy ps ns) (ns.map fun n => (n, g n)) := by
  induction ns with
  | nil => exact .nil
  | cons n ns ih => exact .cons ⟨rfl, h n List.mem_cons_self⟩ (ih fun m hm => h m (List.mem_cons_of_mem _ hm))
theorem val_map {ns : List Nm} {g : Nm → Int} {n : Nm} (h : n ∈ ns) : valOf (ns.map fun n => (n, g n)) n = g n := by
  unfold valOf
  induction ns with
  | nil => cases h
  | cons m ns ih =>
    rw [List.map_cons]
    by_cases e : m = n
    · rw [show aget ((m, g m) :: ns.map fun n => (n, g n)) n = some (g m) from if_pos e, e]
      rfl
    · rw [show aget ((m, g m) :: ns.map fun n => (n, g n)) n = aget (ns.map fun n => (n, g n)) n from if_neg e]
      exact ih ((List.mem_cons.mp h).elim (fun z => (e z.symm).elim) id)
theorem fits_val {ps : Rooms} {ns : List Nm} {f : Fil} (hr : ∀ n ∈ ns, ∃ r, aget ps n = some r) (h : Fits (cellsBy ps ns) f) {n : Nm} (hn : n ∈ ns) : valOf f n ∈ roomOf ps n := by
  obtain ⟨r, er⟩ := hr n hn
  obtain ⟨v, hv, hvr⟩ := fits_get h (get_by hn er)
  unfold valOf roomOf
  rw [hv, er]
  exact hvr
theorem nodup_map_on {α β : Type} {f : α → β} {xs : List α} (h : ∀ x ∈ xs, ∀ y ∈ xs, f x = f y → x = y) (hn : xs.Nodup) : (xs.map f).Nodup := by
  rw [List.nodup_iff_pairwise_ne] at hn ⊢
  rw [List.pairwise_map]
  exact List.Pairwise.imp_of_mem (fun {a b} ha hb hab e => hab (h a ha b hb e)) hn
theorem inj_of_nodup {α β : Type} {f : α → β} {xs : List α} (h : (xs.map f).Nodup) : ∀ x ∈ xs, ∀ y ∈ xs, f x = f y → x = y := by
  induction xs with
  | nil => intro x hx; cases hx
  | cons a xs ih =>
    rw [List.map_cons, List.nodup_cons] at h
    intro x hx y hy e
    rcases List.mem_cons.mp hx with hx | hx
    · rcases List.mem_cons.mp hy with hy | hy
      · rw [hx, hy]
      · exact (h.1 (by rw [← hx, e]; exact List.mem_map_of_mem hy)).elim
    · rcases List.mem_cons.mp hy with hy | hy
      · exact (h.1 (by rw [← hy, ← e]; exact List.mem_map_of_mem hx)).elim
      · exact ih h.2 x hx y hy e
theorem apart_iff {ps : Rooms} {ns ms : List Nm} (hr : ∀ n ∈ ns, ∃ r, aget ps n = some r) (hp : ms.Perm ns) (hn : ns.Nodup) : Apart ps ms ↔ ∃ f, Fits (cellsBy ps ns) f ∧ (ms.map (valOf f)).Nodup := by
  have hm : ms.Nodup := hp.nodup_iff.mpr hn
  constructor
  · rintro ⟨g, g1, g2⟩
    refine ⟨ns.map fun n => (n, g n), fits_map fun n h => g1 n (hp.mem_iff.mpr h), nodup_map_on (fun x hx y hy e => ?_) hm⟩
    rw [val_map (hp.mem_iff.mp hx), val_map (hp.mem_iff.mp hy)] at e
    exact g2 x hx y hy e
  · rintro ⟨f, hf, nd⟩
    exact ⟨valOf f, fun n h => fits_val hr hf (hp.mem_iff.mp h), inj_of_nodup nd⟩
theorem shared_iff {ps : Rooms} {ns ms : List Nm} (hr : ∀ n ∈ ns, ∃ r, aget ps n = some r) (hne : ∀ n ∈ ns, roomOf ps n ≠ []) (hp : ms.Perm ns) (hn : ns.Nodup) : Shared2 ps ms ↔ ∃ f, Fits (cellsBy ps ns) f ∧ ¬ (ms.map (valOf f)).Nodup := by
  have hm : ms.Nodup := hp.nodup_iff.mpr hn
  constructor
  · rintro ⟨n, hn1, m, hm1, nm, v, vn, vm⟩
    let g : Nm → Int := fun k => if k = n ∨ k = m then v else (roomOf ps k).headD 0
    have hg : ∀ k ∈ ns, g k ∈ roomOf ps k := fun k hk => by
      show (if k = n ∨ k = m then v else (roomOf ps k).headD 0) ∈ _
      split
      · rename_i z
        rcases z with z | z
        · rw [z]; exact vn
        · rw [z]; exact vm
      · have := hne k hk
        cases e : roomOf ps k with
        | nil => exact (this e).elim
        | cons a r => simp
    refine ⟨ns.map fun k => (k, g k), fits_map hg, fun nd => nm (inj_of_nodup nd n hn1 m hm1 ?_)⟩
    rw [val_map (hp.mem_iff.mp hn1), val_map (hp.mem_iff.mp hm1)]
    show (if n = n ∨ n = m then v else _) = (if m = n ∨ m = m then v else _)
    rw [if_pos (.inl rfl), if_pos (.inr rfl)]
  · rintro ⟨f, hf, nd⟩
    refine Classical.byContradiction fun z => nd (nodup_map_on (fun x hx y hy e => Classical.byContradiction fun ne => z ⟨x, hx, y, hy, ne, valOf f x, fits_val hr hf (hp.mem_iff.mp hx), ?_⟩) hm)
    rw [e]
    exact fits_val hr hf (hp.mem_iff.mp hy)
/-! ### the object -/
structure UnlikeT (T : Tab) : Prop where
  F1 : T.F "Unlike.may_keep" = some ⟨4, 2, M_Unlike_may_keep⟩
  F2 : T.F "Unlike.may_break" = some ⟨5, 2, M_Unlike_may_break⟩
  F3 : T.F "seated" = some ⟨5, 4, P_seated⟩
  A : T.M "Unlike" (atName "wish") = some ("wish" : Str)
section
variable {T : Tab} {k : Nat} (hT : UnlikeT T) {S : Sto} {t : Nat} {ns : List Nm} {ps : Rooms} (ht : S[t]? = some (.ins "Unlike" [("wish", (Wish.unlike ns).d)])) (hn : ns.Nodup) (hl : ns.length ≤ 12) (hr : ∀ n ∈ ns, ∃ r, aget ps n = some r ∧ r.length ≤ 10 ∧ r.Nodup)
include hT ht hn hl hr
theorem ukeep_ok (hk : 14 ≤ k) : ∃ b : Bool, (b = true ↔ Apart ps ns) ∧ PureX T (k + 1) "Unlike.may_keep" [.ref t, roomsD ps] S (.fz (.bl b)) := by
  haveI := Classical.propDecidable (Apart ps ns)
  refine ⟨decide (Apart ps ns), decide_eq_true_iff, ?_⟩
  refine wf_def hT.F1 rfl ?_
  show WSs T k M_Unlike_may_keep [.va (.ref t), .va (roomsD ps), .no, .no] S (retQ _)
  unfold M_Unlike_may_keep
  have lk : ∀ d : D, List.lookup ("wish" : Str) [(("wish" : Str), d)] = some d := fun _ => rfl
  have wd : (Wish.unlike ns).d = .tup [.str "unlike", tupS ns] := rfl
  have ht' : (S ++ [O.da (.dct [])])[t]? = some (.ins "Unlike" [("wish", (Wish.unlike ns).d)]) := by
    rw [List.getElem?_append_left (List.getElem?_eq_some_iff.mp ht).1]
    exact ht
  simp_arith! [asIns_of ht', hT.A, lk, wd, List.length_nil, List.all_nil]
  let V : List Int := ns.flatMap (roomOf ps)
  have hV : ∀ n ∈ ns, ∀ v ∈ roomOf ps n, v ∈ V := fun n h v hv => List.mem_flatMap.mpr ⟨n, h, hv⟩
  have hVl : V.length ≤ 900 := by
    have : ∀ l : List Nm, (∀ n ∈ l, (roomOf ps n).length ≤ 10) → (l.flatMap (roomOf ps)).length ≤ l.length * 10 := by
      intro l hl
      induction l with
      | nil => simp
      | cons n l ih =>
        have := ih fun m hm => hl m (List.mem_cons_of_mem _ hm)
        have := hl n List.mem_cons_self
        rw [List.flatMap_cons, List.length_append, List.length_cons]
        omega
    have := this ns fun n hn => by
      obtain ⟨r, er, h, _⟩ := hr n hn
      unfold roomOf
      rw [er]
      exact h
    show (ns.flatMap (roomOf ps)).length ≤ 900
    omega
  have hns : ∀ n ∈ ns, ∃ x, aget ps n = some x := fun n h => (hr n h).imp fun r z => z.1
  have nilT : (fun v : Int => v ∈ akeys ([] : Tried)) = fun _ => False := funext fun v => propext (by simp [akeys])
  refine wforM (enc := strD) (xs := ns) [3] [.no] (fun r vs S' => ∃ (dn : List Nm) (M : Seats) (a3 : Sl), vs = [a3] ∧ dn ++ r = ns ∧ Ext S S' ∧ S.length < S'.length ∧ S'[S.length]? = some (.da (mapD strD M)) ∧ SitOk ps ns M (fun _ => False) ∧ ∀ d, Sits M (fun _ => False) d ↔ d ∈ dn) rfl
    ⟨[], [], _, rfl, rfl, ⟨_, rfl⟩, by simp, by rw [List.getElem?_append_right (Nat.le_refl _), Nat.sub_self]; rfl, ⟨List.nodup_nil, fun v d z => (nomatch z), fun v w d _ _ z => (nomatch z)⟩, fun d => ⟨fun ⟨v, _, z⟩ => (nomatch z), fun z => (nomatch z)⟩⟩ ?_ ?_
  · rintro c r vs S1 ⟨dn, M, a3, rfl, e, x1, sl, hs, ok, who⟩
    have hc : c ∈ ns := by rw [← e]; simp
    have e' : (dn ++ [c]) ++ r = ns := by rw [List.append_assoc]; exact e
    have hcd : c ∉ dn := by
      rw [← e, List.nodup_append] at hn
      exact fun z => hn.2.2 c z c List.mem_cons_self rfl
    simp_arith! [List.length_nil, List.all_nil]
    have hr1 : (S1 ++ [O.da (mapD D.bl ([] : Tried))])[S1.length]? = some (.da (mapD D.bl ([] : Tried))) := by
      rw [List.getElem?_append_right (Nat.le_refl _), Nat.sub_self]
      rfl
    have hs1 : (S1 ++ [O.da (mapD D.bl ([] : Tried))])[S.length]? = some (.da (mapD strD M)) := by
      rw [List.getElem?_append_left sl]
      exact hs
    have fr : freeN M ([] : Tried) ≤ 12 := by
      unfold freeN
      refine Nat.le_trans (List.length_filter_le ..) ?_
      -- the seats are of unlike cells
      have : ((akeys M).map fun v => (aget M v).getD []).Nodup := nodup_map_on (fun v hv w hw z => by
        obtain ⟨d, hd⟩ := aget_some hv
        obtain ⟨b, hb⟩ := aget_some hw
        rw [hd, hb] at z
        have z : d = b := z
        exact ok.inj v w d id id hd (z ▸ hb)) ok.nd
      have := nodup_len (ys := ns) this fun d hd => by
        obtain ⟨v, hv, rfl⟩ := List.mem_map.mp hd
        obtain ⟨d, hd⟩ := aget_some hv
        rw [hd]
        exact (ok.val v d hd).1
      rw [List.length_map] at this
      omega
    have ext1 : ∀ S2 : Sto, Dq2 (S1 ++ [O.da (mapD D.bl ([] : Tried))]) S2 S.length S1.length → Ext S S2 ∧ S.length < S2.length := fun S2 dq => by
      have hl2 := dq.1
      rw [List.length_append, List.length_singleton] at hl2
      refine ⟨ext_of (by omega) fun j hj => ?_, by omega⟩
      rw [dq.2 j (by omega) (by omega), List.getElem?_append_left (by omega)]
      exact x1.get (List.getElem?_eq_getElem hj) ▸ (List.getElem?_eq_getElem hj).symm
    refine seated_ok hT.F3 hns hV hVl (s := S.length) (r := S1.length) (by omega) (fr := 12) (lvl := k) (by omega) _ M [] c _ hs1 hr1 (by rw [nilT]; exact ok) (by rw [nilT]; exact fun z => hcd ((who c).mp z)) hc List.nodup_nil (by simp [akeys]) fr ?_ ?_
    · intro M' T' S2 dq hs2 hr2 w
      rw [nilT] at w
      obtain ⟨x2, l2⟩ := ext1 S2 dq
      simp_arith!
      refine ⟨[_], rfl, dn ++ [c], M', _, rfl, e', x2, l2, hs2, w.ok, fun d => ?_⟩
      rw [w.who, who, List.mem_append, List.mem_singleton]
    · intro T' S2 dq hs2 hr2 nd2 tv2 l
      rw [nilT] at l
      obtain ⟨x2, l2⟩ := ext1 S2 dq
      simp_arith!
      refine ⟨?_, x2⟩
      rw [decide_eq_false (not_apart ok (fun z => hcd ((who c).mp z)) hc nd2 l)]
  · rintro vs S1 ⟨dn, M, a3, rfl, e, x1, sl, hs, ok, who⟩
    rw [List.append_nil] at e
    subst e
    simp_arith!
    refine ⟨?_, x1⟩
    rw [decide_eq_true (apart_of ok fun n h => (who n).mpr h)]
theorem ubreak_ok : ∃ b : Bool, (b = true ↔ Shared2 ps ns) ∧ Pure T (k + 1) "Unlike.may_break" [.ref t, roomsD ps] S (.fz (.bl b)) := by
  haveI := Classical.propDecidable (Shared2 ps ns)
  refine ⟨decide (Shared2 ps ns), decide_eq_true_iff, ?_⟩
  refine wf_def hT.F2 rfl ?_
  show WSs T k M_Unlike_may_break [.va (.ref t), .va (roomsD ps), .no, .no, .no] S (retQ _)
  unfold M_Unlike_may_break
  have lk : ∀ d : D, List.lookup ("wish" : Str) [(("wish" : Str), d)] = some d := fun _ => rfl
  have wd : (Wish.unlike ns).d = .tup [.str "unlike", tupS ns] := rfl
  simp_arith! [asIns_of ht, hT.A, lk, wd, List.length_nil, List.all_nil]
  refine wforM (enc := strD) (xs := ns) [2, 3, 4] [.ow (mapD D.bl ([] : Tried)), .no, .no] (fun r vs S' => S' = S ∧ ∃ (dn : List Nm) (qs : Tried) (a3 a4 : Sl), vs = [.ow (mapD D.bl qs), a3, a4] ∧ dn ++ r = ns ∧ (akeys qs).Nodup ∧ qs.length ≤ dn.length * 10 ∧ (∀ v, v ∈ akeys qs ↔ ∃ n ∈ dn, v ∈ roomOf ps n) ∧ ∀ n ∈ dn, ∀ m ∈ dn, n ≠ m → ∀ v, v ∈ roomOf ps n → v ∉ roomOf ps m) rfl
    ⟨rfl, [], [], _, _, rfl, rfl, List.nodup_nil, by simp, by simp [akeys], by simp⟩ ?_ ?_
  · rintro c r vs S1 ⟨rfl, dn, qs, a3, a4, rfl, e, nd, ql, hq, no⟩
    obtain ⟨rm, er, rl, rnd⟩ := hr c (by rw [← e]; simp)
    have ro : roomOf ps c = rm := by unfold roomOf; rw [er]; rfl
    have e' : (dn ++ [c]) ++ r = ns := by rw [List.append_assoc]; exact e
    have hcd : c ∉ dn := by
      rw [← e, List.nodup_append] at hn
      exact fun z => hn.2.2 c z c List.mem_cons_self rfl
    have dl : dn.length < 12 := by
      have := congrArg List.length e
      rw [List.length_append, List.length_cons] at this
      omega
    simp_arith! [er]
    refine wforM (enc := D.int) (xs := rm) [2, 4] [.ow (mapD D.bl qs), a4] (fun r vs S' => S' = S1 ∧ ∃ (d2 : List Int) (qs : Tried) (a4 : Sl), vs = [.ow (mapD D.bl qs), a4] ∧ d2 ++ r = rm ∧ (akeys qs).Nodup ∧ qs.length ≤ dn.length * 10 + d2.length ∧ (∀ v, v ∈ akeys qs ↔ (∃ n ∈ dn, v ∈ roomOf ps n) ∨ v ∈ d2) ∧ ∀ v ∈ d2, ∀ n ∈ dn, v ∉ roomOf ps n) rfl
      ⟨rfl, [], qs, _, rfl, rfl, nd, by simpa using ql, fun v => by rw [hq]; simp, by simp⟩ ?_ ?_
    · rintro v r2 vs S2 ⟨rfl, d2, qs, a4, rfl, e2, nd, ql, hq, no2⟩
      have d2l : d2.length < 10 := by
        have := congrArg List.length e2
        rw [List.length_append, List.length_cons] at this
        omega
      have hvd : v ∉ d2 := by
        rw [← e2, List.nodup_append] at rnd
        exact fun z => rnd.2.2 v z v List.mem_cons_self rfl
      have vr : v ∈ roomOf ps c := by rw [ro, ← e2]; simp
      by_cases hv : v ∈ akeys qs
      · simp_arith! [hv, decide_true]
        rcases (hq v).mp hv with ⟨n, hn1, hv1⟩ | z
        · rw [decide_eq_true]
          exact ⟨n, by rw [← e]; exact List.mem_append_left _ hn1, c, by rw [← e]; simp, fun z => hcd (z ▸ hn1), v, hv1, vr⟩
        · exact (hvd z).elim
      · have pm : putC (.bl true) (mapD D.bl qs) (.int v) = fun Q => qs.length < sizeLine ∧ Q (mapD D.bl (aput qs v true)) := funext fun Q => propext (p_mapI nd)
        simp_arith! [hv, decide_false, pm]
        refine ⟨[_, _], rfl, d2 ++ [v], _, _, rfl, by rw [List.append_assoc]; exact e2, nodup_aput nd, ?_, fun u => ?_, fun u hu n hn1 => ?_⟩
        · have := aput_len (ps := qs) (k := v) (v := true)
          rw [List.length_append, List.length_singleton]
          omega
        · rw [mem_aput, hq, or_assoc, List.mem_append, List.mem_singleton]
        · rcases List.mem_append.mp hu with z | z
          · exact no2 u z n hn1
          · rw [List.mem_singleton.mp z]
            exact fun y => hv ((hq v).mpr (.inl ⟨n, hn1, y⟩))
    · rintro vs S2 ⟨rfl, d2, qs, a4, rfl, e2, nd, ql, hq, no2⟩
      rw [List.append_nil] at e2
      subst e2
      simp_arith!
      refine ⟨[_, _, _], rfl, dn ++ [c], qs, _, _, rfl, e', nd, by rw [List.length_append, List.length_singleton]; omega, fun v => ?_, fun n hn1 m hm1 nm v hv => ?_⟩
      · rw [hq]
        constructor
        · rintro (⟨n, h1, h2⟩ | z)
          · exact ⟨n, List.mem_append_left _ h1, h2⟩
          · exact ⟨c, by simp, by rw [ro]; exact z⟩
        · rintro ⟨n, h1, h2⟩
          rcases List.mem_append.mp h1 with z | z
          · exact .inl ⟨n, z, h2⟩
          · rw [List.mem_singleton.mp z, ro] at h2
            exact .inr h2
      · rcases List.mem_append.mp hn1 with z | z
        · rcases List.mem_append.mp hm1 with y | y
          · exact no n z m y nm v hv
          · rw [List.mem_singleton.mp y, ro]
            exact fun w => no2 v w n z hv
        · rw [List.mem_singleton.mp z, ro] at hv
          rcases List.mem_append.mp hm1 with y | y
          · exact no2 v hv m y
          · exact (nm (by rw [List.mem_singleton.mp z, List.mem_singleton.mp y])).elim
  · rintro vs S1 ⟨rfl, dn, qs, a3, a4, rfl, e, nd, ql, hq, no⟩
    rw [List.append_nil] at e
    subst e
    simp_arith!
    rw [decide_eq_false]
    rintro ⟨n, h1, m, h2, nm, v, v1, v2⟩
    exact no n h1 m h2 nm v v1 v2
end

/-! Sk47: what keeps a wish; _law_kept. -/
open PySem PySem.Spec
open L2 (ixN atI)
theorem dq_unlike_same : decide (("unlike" : Str) = "same") = false := by decide +kernel
theorem dq_unlike_sum : decide (("unlike" : Str) = "sum") = false := by decide +kernel
theorem dq_unlike_many : decide (("unlike" : Str) = "many") = false := by decide +kernel
theorem dq_unlike_unlike : decide (("unlike" : Str) = "unlike") = true := by decide +kernel
theorem dq_unlike_table : decide (("unlike" : Str) = "table") = false := by decide +kernel
theorem dq_unlike_behind : decide (("unlike" : Str) = "behind") = false := by decide +kernel
theorem dq_many_same : decide (("many" : Str) = "same") = false := by decide +kernel
theorem dq_many_sum : decide (("many" : Str) = "sum") = false := by decide +kernel
theorem dq_many_many : decide (("many" : Str) = "many") = true := by decide +kernel
theorem dq_many_unlike : decide (("many" : Str) = "unlike") = false := by decide +kernel
theorem dq_many_table : decide (("many" : Str) = "table") = false := by decide +kernel
theorem dq_many_behind : decide (("many" : Str) = "behind") = false := by decide +kernel
theorem dq_sum_same : decide (("sum" : Str) = "same") = false := by decide +kernel
theorem dq_sum_sum : decide (("sum" : Str) = "sum") = true := by decide +kernel
theorem dq_sum_many : decide (("sum" : Str) = "many") = false := by decide +kernel
theorem dq_sum_unlike : decide (("sum" : Str) = "unlike") = false := by decide +kernel
theorem dq_sum_table : decide (("sum" : Str) = "table") = false := by decide +kernel
theorem dq_sum_behind : decide (("sum" : Str) = "behind") = false := by decide +kernel
theorem dq_table_same : decide (("table" : Str) = "same") = false := by decide +kernel
theorem dq_table_sum : decide (("table" : Str) = "sum") = false := by decide +kernel
theorem dq_table_many : decide (("table" : Str) = "many") = false := by decide +kernel
theorem dq_table_unlike : decide (("table" : Str) = "unlike") = false := by decide +kernel
theorem dq_table_table : decide (("table" : Str) = "table") = true := by decide +kernel
theorem dq_table_behind : decide (("table" : Str) = "behind") = false := by decide +kernel
theorem dq_way_same : decide (("way" : Str) = "same") = false := by decide +kernel
theorem dq_way_sum : decide (("way" : Str) = "sum") = false := by decide +kernel
theorem dq_way_many : decide (("way" : Str) = "many") = false := by decide +kernel
theorem dq_way_unlike : decide (("way" : Str) = "unlike") = false := by decide +kernel
theorem dq_way_table : decide (("way" : Str) = "table") = false := by decide +kernel
theorem dq_way_behind : decide (("way" : Str) = "behind") = false := by decide +kernel
theorem dq_behind_same : decide (("behind" : Str) = "same") = false := by decide +kernel
theorem dq_behind_sum : decide (("behind" : Str) = "sum") = false := by decide +kernel
theorem dq_behind_many : decide (("behind" : Str) = "many") = false := by decide +kernel
theorem dq_behind_unlike : decide (("behind" : Str) = "unlike") = false := by decide +kernel
theorem dq_behind_table : decide (("behind" : Str) = "table") = false := by decide +kernel
theorem dq_behind_behind : decide (("behind" : Str) = "behind") = true := by decide +kernel
theorem dq_same_same : decide (("same" : Str) = "same") = true := by decide +kernel
theorem dq_same_sum : decide (("same" : Str) = "sum") = false := by decide +kernel
theorem dq_same_many : decide (("same" : Str) = "many") = false := by decide +kernel
theorem dq_same_unlike : decide (("same" : Str) = "unlike") = false := by decide +kernel
theorem dq_same_table : decide (("same" : Str) = "table") = false := by decide +kernel
theorem dq_same_behind : decide (("same" : Str) = "behind") = false := by decide +kernel
/-! ### plain -/
def valsOf (f : Fil) (cs : List Nm) : List Int := cs.map (valOf f)
def stepW (steps : List (Int × Int × Int)) (st v : Int) : Option Int := ((steps.filter fun s => decide (s.1 = st ∧ s.2.1 = v)).map (·.2.2))[0]?
def runW (steps : List (Int × Int × Int)) : Int → List Int → Option Int
  | st, [] => some st
  | st, v :: r => (stepW steps st v).bind fun s => runW steps s r
def behindB (g : Int) (vs : List Int) : Bool := (List.range (vs.length - 1)).all fun k => decide (vs.getD k 0 + g ≤ vs.getD (k + 1) 0)
/-- a filling keeps a wish -/
def keeps : Wish → Fil → Bool
  | .unlike cs, f => decide (valsOf f cs).Nodup
  | .many vs cs lo hi, f => decide (lo ≤ (((valsOf f cs).filter fun v => decide (v ∈ vs)).length : Int) ∧ (((valsOf f cs).filter fun v => decide (v ∈ vs)).length : Int) ≤ hi)
  | .sum ts lo hi, f => within lo hi (sumF ts f)
  | .table cs rows, f => decide (valsOf f cs ∈ rows)
  | .way cs steps ends, f => (runW steps 0 (valsOf f cs)).any fun s => decide (s ∈ ends)
  | .behind cs g, f => behindB g (valsOf f cs)
  | .same c vs w, f => decide (valOf f c ∈ vs) == keeps w f
/-- a filling that has values, within the bounds, for all of some cells -/
def FilOk (ns : List Nm) (f : Fil) : Prop := ∀ n ∈ ns, ∃ v, aget f n = some v ∧ -1000000 ≤ v ∧ v ≤ 1000000
theorem FilOk.get {ns : List Nm} {f : Fil} (h : FilOk ns f) {n : Nm} (hn : n ∈ ns) : aget f n = some (valOf f n) ∧ -1000000 ≤ valOf f n ∧ valOf f n ≤ 1000000 := by
  obtain ⟨v, e, b⟩ := h n hn
  unfold valOf
  rw [e]
  exact ⟨rfl, b⟩
theorem eq_bl {a b : Bool} : cmpD .eq (.bl a) (.bl b) = some (a == b) := by cases a <;> cases b <;> rfl
theorem step_cut {s : Int × Int × Int} : slcD (stepD s) none (some 2) = some (.fz (tupI [s.1, s.2.1])) := rfl
theorem cont_step {ρ : Env'} {S : Sto} {s : Int × Int × Int} : cont ρ S (.fz (stepD s)) = some (stepD s) := rfl
/-- what is asked of a wish and a filling -/
def KOk (ns : List Nm) (w : Wish) : Prop := w.cells ≠ [] ∧ w.cells.length ≤ 60 ∧ (∀ c ∈ w.cells, c ∈ ns) ∧ match w with
  | .table _ rows => rows.length ≤ 60
  | .way _ steps _ => steps.length ≤ 60
  | _ => True
section
variable {T : Tab} {k : Nat} (hF : T.F "_law_kept" = some ⟨11, 2, L_kept⟩) {S : Sto} {f : Fil} {ns : List Nm} (hf : FilOk ns f)
include hF hf
theorem vals_lc {w : D} {cs : List Nm} {a2 a3 a5 a6 a7 a8 a9 a10 : Sl} {Q : List D → Env' → Sto → Prop} (hc : ∀ c ∈ cs, c ∈ ns) (hl : cs.length ≤ 60)
    (q : Q ((valsOf f cs).map .int) [.va w, .va (filD f), a2, a3, .no, a5, a6, a7, a8, a9, a10] S) : WLc T k (.one 4) (.sub (.var 1) (.var 4)) [] (cs.map strD) [] [.va w, .va (filD f), a2, a3, .no, a5, a6, a7, a8, a9, a10] S Q := by
  refine wlcN (enc := strD) (xs := cs) (fun n => .int (valOf f n)) (by have := line1m; omega) (fun n hn => ?_) ?_
  · simp_arith! [(hf.get (hc n hn)).1]
  · have e : cs.map (fun n => D.int (valOf f n)) = (valsOf f cs).map .int := by unfold valsOf; rw [List.map_map]; rfl
    rw [e]
    exact q
theorem kept_unlike {cs : List Nm} (hk : KOk ns (Wish.unlike cs)) : Pure T (k + 1) "_law_kept" [(Wish.unlike cs).d, filD f] S (.fz (.bl (keeps (Wish.unlike cs) f))) := by
  obtain ⟨h0, hl, hc, h9⟩ := hk
  refine wf_def hF rfl ?_
  show WSs T k L_kept [.va (Wish.unlike cs).d, .va (filD f), .no, .no, .no, .no, .no, .no, .no, .no, .no] S (retQ _)
  have wd : (Wish.unlike cs).d = .tup [.str "unlike", tupS cs] := rfl
  have hl : cs.length ≤ 60 := hl
  have hc : ∀ c ∈ cs, c ∈ ns := hc
  show WSs T k (_ :: L_kept.drop 1) _ _ _
  simp_arith! [wd, dq_unlike_same]
  show WSs T k (_ :: L_kept.drop 2) _ _ _
  simp_arith! [wd, dq_unlike_sum]
  show WSs T k (_ :: L_kept.drop 3) _ _ _
  simp_arith! [wd, dq_unlike_many]
  show WSs T k (_ :: L_kept.drop 4) _ _ _
  simp_arith! [wd]
  refine vals_lc hF hf hc hl ?_
  simp_arith! [wd]
  show WSs T k (_ :: L_kept.drop 5) _ _ _
  have vl : (valsOf f cs).length = cs.length := List.length_map ..
  simp_arith! [wd, dq_unlike_unlike, o_lenset]
  have := dd_len (xs := valsOf f cs)
  rw [decide_eq_decide.mpr (show ((ddI (valsOf f cs)).length : Int) = ((valsOf f cs).length : Nat) ↔ (valsOf f cs).Nodup from ⟨fun z => this.mp (by omega), fun z => by have := this.mpr z; omega⟩)]
  rfl
theorem kept_table {cs : List Nm} {rows : List (List Int)} (hk : KOk ns (Wish.table cs rows)) : Pure T (k + 1) "_law_kept" [(Wish.table cs rows).d, filD f] S (.fz (.bl (keeps (Wish.table cs rows) f))) := by
  obtain ⟨h0, hl, hc, h9⟩ := hk
  refine wf_def hF rfl ?_
  show WSs T k L_kept [.va (Wish.table cs rows).d, .va (filD f), .no, .no, .no, .no, .no, .no, .no, .no, .no] S (retQ _)
  have wd : (Wish.table cs rows).d = .tup [.str "table", tupS cs, .tup (rows.map tupI)] := rfl
  have hl : cs.length ≤ 60 := hl
  have hc : ∀ c ∈ cs, c ∈ ns := hc
  show WSs T k (_ :: L_kept.drop 1) _ _ _
  simp_arith! [wd, dq_table_same]
  show WSs T k (_ :: L_kept.drop 2) _ _ _
  simp_arith! [wd, dq_table_sum]
  show WSs T k (_ :: L_kept.drop 3) _ _ _
  simp_arith! [wd, dq_table_many]
  show WSs T k (_ :: L_kept.drop 4) _ _ _
  simp_arith! [wd]
  refine vals_lc hF hf hc hl ?_
  simp_arith! [wd]
  show WSs T k (_ :: L_kept.drop 5) _ _ _
  simp_arith! [wd, dq_table_unlike]
  show WSs T k (_ :: L_kept.drop 6) _ _ _
  have tt : D.tup ((valsOf f cs).map .int) = tupI (valsOf f cs) := rfl
  simp_arith! [wd, dq_table_table, tt]
  rfl
theorem kept_behind {cs : List Nm} {g : Int} (hk : KOk ns (Wish.behind cs g)) : Pure T (k + 1) "_law_kept" [(Wish.behind cs g).d, filD f] S (.fz (.bl (keeps (Wish.behind cs g) f))) := by
  obtain ⟨h0, hl, hc, h9⟩ := hk
  refine wf_def hF rfl ?_
  show WSs T k L_kept [.va (Wish.behind cs g).d, .va (filD f), .no, .no, .no, .no, .no, .no, .no, .no, .no] S (retQ _)
  have wd : (Wish.behind cs g).d = .tup [.str "behind", tupS cs, .int g] := rfl
  have hl : cs.length ≤ 60 := hl
  have hc : ∀ c ∈ cs, c ∈ ns := hc
  have h0 : cs ≠ [] := h0
  have h1 : 1 ≤ cs.length := List.length_pos_iff.mpr h0
  show WSs T k (_ :: L_kept.drop 1) _ _ _
  simp_arith! [wd, dq_behind_same]
  show WSs T k (_ :: L_kept.drop 2) _ _ _
  simp_arith! [wd, dq_behind_sum]
  show WSs T k (_ :: L_kept.drop 3) _ _ _
  simp_arith! [wd, dq_behind_many]
  show WSs T k (_ :: L_kept.drop 4) _ _ _
  simp_arith! [wd]
  refine vals_lc hF hf hc hl ?_
  simp_arith! [wd]
  show WSs T k (_ :: L_kept.drop 5) _ _ _
  simp_arith! [wd, dq_behind_unlike]
  show WSs T k (_ :: L_kept.drop 6) _ _ _
  simp_arith! [wd, dq_behind_table]
  show WSs T k (_ :: L_kept.drop 7) _ _ _
  have vl : (valsOf f cs).length = cs.length := List.length_map ..
  simp_arith! [wd, dq_behind_behind]
  rw [rng_ok (by omega) (by omega)]
  simp_arith!
  refine wlcN (enc := fun (k : Nat) => D.int (0 + k)) (xs := List.range (((valsOf f cs).length : Nat) - 1 : Int).toNat) (fun k => .bl (decide ((valsOf f cs).getD k 0 + g ≤ (valsOf f cs).getD (k + 1) 0))) (by rw [List.length_range]; have := line1m; omega) (fun j hj => ?_) ?_
  · rw [List.mem_range] at hj
    have j1 : j < (valsOf f cs).length := by omega
    have j2 : j + 1 < (valsOf f cs).length := by omega
    have z0 : (0 : Int) + (j : Nat) = (j : Nat) := Int.zero_add _
    simp_arith! [z0]
    refine o_atMap (by omega) (by omega) fun _ => ?_
    simp_arith!
    refine o_atMap (by omega) (by omega) fun _ => ?_
    have e2 : ((j : Int) + 1).toNat = j + 1 := by omega
    have g1 : (valsOf f cs)[((j : Nat) : Int).toNat] = (valsOf f cs).getD j 0 := by
      rw [List.getD_eq_getElem?_getD, List.getElem?_eq_getElem j1]
      rfl
    have g2 : (valsOf f cs)[((j : Int) + 1).toNat] = (valsOf f cs).getD (j + 1) 0 := by
      rw [List.getD_eq_getElem?_getD, List.getElem?_eq_getElem j2]
      simp only [e2, Option.getD_some]
    simp_arith! [g1, g2]
  have e : (List.range (((valsOf f cs).length : Nat) - 1 : Int).toNat).map (fun k => D.bl (decide ((valsOf f cs).getD k 0 + g ≤ (valsOf f cs).getD (k + 1) 0))) = ((List.range ((valsOf f cs).length - 1)).map fun k => decide ((valsOf f cs).getD k 0 + g ≤ (valsOf f cs).getD (k + 1) 0)).map .bl := by
    rw [List.map_map, show (((valsOf f cs).length : Nat) - 1 : Int).toNat = (valsOf f cs).length - 1 by omega]
    rfl
  rw [e]
  simp_arith!
  have e3 : (((List.range ((valsOf f cs).length - 1)).map fun k => decide ((valsOf f cs).getD k 0 + g ≤ (valsOf f cs).getD (k + 1) 0)).all id) = behindB g (valsOf f cs) := by
    unfold behindB
    rw [List.all_map]
    rfl
  rw [e3]
  rfl
theorem kept_many {vs : List Int} {cs : List Nm} {lo hi : Int} (hk : KOk ns (Wish.many vs cs lo hi)) : Pure T (k + 1) "_law_kept" [(Wish.many vs cs lo hi).d, filD f] S (.fz (.bl (keeps (Wish.many vs cs lo hi) f))) := by
  obtain ⟨h0, hl, hc, h9⟩ := hk
  refine wf_def hF rfl ?_
  show WSs T k L_kept [.va (Wish.many vs cs lo hi).d, .va (filD f), .no, .no, .no, .no, .no, .no, .no, .no, .no] S (retQ _)
  have wd : (Wish.many vs cs lo hi).d = .tup [.str "many", tupI vs, tupS cs, .int lo, .int hi] := rfl
  have hl : cs.length ≤ 60 := hl
  have hc : ∀ c ∈ cs, c ∈ ns := hc
  show WSs T k (_ :: L_kept.drop 1) _ _ _
  simp_arith! [wd, dq_many_same]
  show WSs T k (_ :: L_kept.drop 2) _ _ _
  simp_arith! [wd, dq_many_sum]
  show WSs T k (_ :: L_kept.drop 3) _ _ _
  simp_arith! [wd, dq_many_many]
  refine wlcP (enc := strD) (xs := cs) (fun n => decide (valOf f n ∈ vs)) strD (by have := line1m; omega) (fun n hn => ?_) ?_
  · simp_arith! [(hf.get (hc n hn)).1]
    by_cases c : valOf f n ∈ vs
    · simp_arith! [c, decide_true]
    · simp_arith! [c, decide_false]
  have e : (cs.filter fun n => decide (valOf f n ∈ vs)).length = ((valsOf f cs).filter fun v => decide (v ∈ vs)).length := by
    unfold valsOf
    rw [List.filter_map, List.length_map]
    rfl
  simp_arith! [e]
  have kk : keeps (Wish.many vs cs lo hi) f = decide (lo ≤ (((valsOf f cs).filter fun v => decide (v ∈ vs)).length : Int) ∧ (((valsOf f cs).filter fun v => decide (v ∈ vs)).length : Int) ≤ hi) := rfl
  rw [kk]
  split
  · rename_i h
    rw [decide_eq_decide.mpr (show (((valsOf f cs).filter fun v => decide (v ∈ vs)).length : Int) ≤ hi ↔ lo ≤ (((valsOf f cs).filter fun v => decide (v ∈ vs)).length : Int) ∧ (((valsOf f cs).filter fun v => decide (v ∈ vs)).length : Int) ≤ hi from ⟨fun z => ⟨h, z⟩, fun z => z.2⟩)]
  · rename_i h
    rw [decide_eq_false (fun z => h z.1)]
theorem kept_sum {ts : Terms} {lo hi : Option Int} (hk : KOk ns (Wish.sum ts lo hi)) : Pure T (k + 1) "_law_kept" [(Wish.sum ts lo hi).d, filD f] S (.fz (.bl (keeps (Wish.sum ts lo hi) f))) := by
  obtain ⟨h0, hl, hc, h9⟩ := hk
  refine wf_def hF rfl ?_
  show WSs T k L_kept [.va (Wish.sum ts lo hi).d, .va (filD f), .no, .no, .no, .no, .no, .no, .no, .no, .no] S (retQ _)
  have wd : (Wish.sum ts lo hi).d = .tup [.str "sum", .tup (ts.map termD), optD lo, optD hi] := rfl
  have hc : ∀ t ∈ ts, t.2 ∈ ns := fun t ht => hc t.2 (List.mem_map_of_mem ht)
  have hl : ts.length ≤ 60 := by
    have : (Wish.sum ts lo hi).cells.length = ts.length := List.length_map ..
    omega
  show WSs T k (_ :: L_kept.drop 1) _ _ _
  simp_arith! [wd, dq_sum_same]
  show WSs T k (_ :: L_kept.drop 2) _ _ _
  simp_arith! [wd, dq_sum_sum]
  refine wlcN (enc := termD) (xs := ts) (fun t => .int (t.1 * valOf f t.2)) (by have := line1m; omega) (fun u hu => ?_) ?_
  · have hv := hf.get (hc u hu)
    have td : termD u = .tup [.int u.1, strD u.2] := rfl
    have mul : mulOk u.1 (valOf f u.2) := .inl (.inr (by omega))
    simp_arith! [td, hv.1, mul]
  have e : ts.map (fun t => D.int (t.1 * valOf f t.2)) = (ts.map fun t => t.1 * valOf f t.2).map .int := by rw [List.map_map]; rfl
  have e2 : (ts.map fun t => t.1 * valOf f t.2).sum = sumF ts f := rfl
  rw [e]
  simp_arith! [e2]
  have kk : keeps (Wish.sum ts lo hi) f = within lo hi (sumF ts f) := rfl
  rw [kk]
  unfold within
  cases lo with
  | none =>
    cases hi with
    | none => simp_arith! [is_opt, look_opt, Option.isNone_none, Option.all_none]
    | some h => simp_arith! [is_opt, look_opt, Option.isNone_none, Option.isNone_some, Option.all_none, Option.all_some, le_opt]
  | some l =>
    cases hi with
    | none =>
      simp_arith! [is_opt, look_opt, Option.isNone_none, Option.isNone_some, Option.all_none, Option.all_some, ge_opt]
      split
      · rename_i c
        rw [decide_eq_true (show l ≤ sumF ts f by omega)]
      · rename_i c
        rw [decide_eq_false (by omega)]
    | some h =>
      simp_arith! [is_opt, look_opt, Option.isNone_none, Option.isNone_some, Option.all_none, Option.all_some, ge_opt, le_opt]
      split
      · rename_i c
        rw [decide_eq_true (show l ≤ sumF ts f by omega), Bool.true_and]
      · rename_i c
        rw [decide_eq_false (show ¬ l ≤ sumF ts f by omega), Bool.false_and]
theorem kept_way {cs : List Nm} {steps : List (Int × Int × Int)} {ends : List Int} (hk : KOk ns (Wish.way cs steps ends)) : Pure T (k + 1) "_law_kept" [(Wish.way cs steps ends).d, filD f] S (.fz (.bl (keeps (Wish.way cs steps ends) f))) := by
  obtain ⟨h0, hl, hc, h9⟩ := hk
  refine wf_def hF rfl ?_
  show WSs T k L_kept [.va (Wish.way cs steps ends).d, .va (filD f), .no, .no, .no, .no, .no, .no, .no, .no, .no] S (retQ _)
  have wd : (Wish.way cs steps ends).d = .tup [.str "way", tupS cs, .tup (steps.map stepD), tupI ends] := rfl
  have hl : cs.length ≤ 60 := hl
  have hc : ∀ c ∈ cs, c ∈ ns := hc
  have h9 : steps.length ≤ 60 := h9
  show WSs T k (_ :: L_kept.drop 1) _ _ _
  simp_arith! [wd, dq_way_same]
  show WSs T k (_ :: L_kept.drop 2) _ _ _
  simp_arith! [wd, dq_way_sum]
  show WSs T k (_ :: L_kept.drop 3) _ _ _
  simp_arith! [wd, dq_way_many]
  show WSs T k (_ :: L_kept.drop 4) _ _ _
  simp_arith! [wd]
  refine vals_lc hF hf hc hl ?_
  simp_arith! [wd]
  show WSs T k (_ :: L_kept.drop 5) _ _ _
  simp_arith! [wd, dq_way_unlike]
  show WSs T k (_ :: L_kept.drop 6) _ _ _
  simp_arith! [wd, dq_way_table]
  show WSs T k (_ :: L_kept.drop 7) _ _ _
  simp_arith! [wd, dq_way_behind]
  have kk : keeps (Wish.way cs steps ends) f = (runW steps 0 (valsOf f cs)).any fun s => decide (s ∈ ends) := rfl
  rw [kk]
  have vl : (valsOf f cs).length = cs.length := List.length_map ..
  generalize hvs : valsOf f cs = vs
  rw [hvs] at vl
  show WSs T k (_ :: _ :: L_kept.drop 9) _ _ _
  simp_arith!
  refine wforM (enc := D.int) (xs := vs) [7, 8, 9] [.va (.int 0), .no, .no] (fun r vs' S' => S' = S ∧ ∃ (st : Int) (a8 a9 : Sl), vs' = [.va (.int st), a8, a9] ∧ (runW steps 0 vs).any (fun s => decide (s ∈ ends)) = (runW steps st r).any fun s => decide (s ∈ ends)) rfl ⟨rfl, 0, _, _, rfl, rfl⟩ ?_ ?_
  · rintro v r vs' S1 ⟨rfl, st, a8, a9, rfl, e⟩
    simp_arith! [wd]
    refine wlcP (enc := stepD) (xs := steps) (fun s => decide (s.1 = st ∧ s.2.1 = v)) (fun s => .int s.2.2) (by have := line1m; omega) (fun s hs => ?_) ?_
    · have tt : D.tup [D.int st, .int v] = tupI [st, v] := rfl
      have s2 : subD (stepD s) (.int 2) = some (.int s.2.2) := rfl
      simp_arith! [cont_step, step_cut, tt, s2]
      by_cases c : s.1 = st ∧ s.2.1 = v
      · rw [if_pos (by rw [c.1, c.2]), if_pos c]
        exact ⟨(decide_eq_true c).symm, trivial⟩
      · rw [if_neg (fun z => c (by simpa using z)), if_neg c]
        exact ⟨(decide_eq_false c).symm, trivial⟩
    have e1 : (steps.filter fun s => decide (s.1 = st ∧ s.2.1 = v)).map (fun s => D.int s.2.2) = ((steps.filter fun s => decide (s.1 = st ∧ s.2.1 = v)).map (·.2.2)).map .int := by rw [List.map_map]; rfl
    rw [e1]
    simp_arith! [emp_ints]
    cases ea : (steps.filter fun s => decide (s.1 = st ∧ s.2.1 = v)).map (·.2.2) with
    | nil =>
      simp_arith!
      have : runW steps st (v :: r) = none := by
        show (stepW steps st v).bind _ = none
        unfold stepW
        rw [ea]
        rfl
      rw [e, this]
      rfl
    | cons x xs =>
      have g0 : ∀ {Q : D → Prop}, ob ((x :: xs).map D.int)[0]? Q ↔ Q (.int x) := ob_some
      simp_arith! [reduceCtorEq, g0]
      refine ⟨[_, _, _], rfl, x, _, _, rfl, ?_⟩
      have : runW steps st (v :: r) = runW steps x r := by
        show (stepW steps st v).bind _ = _
        unfold stepW
        rw [ea]
        rfl
      rw [e, this]
  · rintro vs' S1 ⟨rfl, st, a8, a9, rfl, e⟩
    rw [e]
    show WSs T k [_] _ _ _
    simp_arith! [wd]
    rfl
end
theorem kok_of {ns : List Nm} {w : Wish} (h : WOk ns w) (hd : w.deep = 0) : KOk ns w := by
  cases w with
  | unlike cs => exact ⟨h.ne, Nat.le_trans h.le (by decide), h.sub, trivial⟩
  | many vs cs lo hi => exact ⟨h.1.ne, Nat.le_trans h.1.le (by decide), h.1.sub, trivial⟩
  | sum ts lo hi => exact ⟨h.1.ne, Nat.le_trans h.1.le (by decide), h.1.sub, trivial⟩
  | table cs rows => exact ⟨h.1.ne, Nat.le_trans h.1.le (by decide), h.1.sub, h.2.2.1⟩
  | way cs steps ends => exact ⟨h.1.ne, Nat.le_trans h.1.le (by decide), h.1.sub, h.2.2.1⟩
  | behind cs g => exact ⟨h.1.ne, Nat.le_trans h.1.le (by decide), h.1.sub, trivial⟩
  | same c vs w => cases hd
theorem lawkept0 {T : Tab} {k : Nat} (hF : T.F "_law_kept" = some ⟨11, 2, L_kept⟩) {S : Sto} {f : Fil} {ns : List Nm} (hf : FilOk ns f) {w : Wish} (hw : KOk ns w) (hd : w.deep = 0) : Pure T (k + 1) "_law_kept" [w.d, filD f] S (.fz (.bl (keeps w f))) := by
  cases w with
  | unlike cs => exact kept_unlike hF hf hw
  | many vs cs lo hi => exact kept_many hF hf hw
  | sum ts lo hi => exact kept_sum hF hf hw
  | table cs rows => exact kept_table hF hf hw
  | way cs steps ends => exact kept_way hF hf hw
  | behind cs g => exact kept_behind hF hf hw
  | same c vs w => cases hd
theorem lawkept_ok {T : Tab} {k : Nat} (hF : T.F "_law_kept" = some ⟨11, 2, L_kept⟩) {S : Sto} {f : Fil} {ns : List Nm} (hf : FilOk ns f) {w : Wish} (hw : WOk ns w) (hd : w.deep ≤ 1) : Pure T (k + 2) "_law_kept" [w.d, filD f] S (.fz (.bl (keeps w f))) := by
  by_cases h0 : w.deep = 0
  · exact lawkept0 hF hf (kok_of hw h0) h0
  cases w with
  | same c vs w =>
    obtain ⟨hc, _, _, _, hd0, _, hw0⟩ := hw
    refine wf_def hF rfl ?_
    show WSs T (k + 1) (_ :: L_kept.drop 1) [.va (Wish.same c vs w).d, .va (filD f), .no, .no, .no, .no, .no, .no, .no, .no, .no] S (retQ _)
    have wd : (Wish.same c vs w).d = .tup [.str "same", strD c, tupI vs, w.d] := rfl
    have kk : keeps (Wish.same c vs w) f = (decide (valOf f c ∈ vs) == keeps w f) := rfl
    simp_arith! [wd, dq_same_same, (hf.get hc).1]
    refine (lawkept0 hF hf (kok_of hw0 hd0) hd0).elim ?_
    simp_arith! [eq_bl, kk]
  | _ => exact absurd rfl h0

/-! Sk48: _law_right: an object is asked by all fillings; _law_some of tuples. -/
open PySem PySem.Spec
open L2 (ixN atI)
section
variable {T : Tab} {k : Nat} (hD : T.F "_law_draw" = some ⟨5, 2, drawC⟩) (hF : T.F "_law_some" = some ⟨6, 3, L_some⟩)
include hD hF
theorem someG {α : Type} {enc : α → D} {S0 S : Sto} {n m : Nat} {xs : List α} {d : D} {least : Int} {Q : Op → Sto → Prop} (hd : Dk S0 S n m) (hds : d = .lst (xs.map enc) ∨ d = .tup (xs.map enc)) (hl : xs.length ≤ 900) (h0 : 0 ≤ least) (h1 : least ≤ xs.length)
    (q : ∀ (us vs : List α) S', (us ++ vs).Perm xs → least ≤ us.length → Dk S0 S' n m → Q (.fz (.tup (us.map enc))) S') : WF T (k + 2) "_law_some" [.ref n, d, .int least] S Q := by
  refine wf_def hF rfl ?_
  show WSs T (k + 1) (_ :: L_some.drop 1) [.va (.ref n), .va d, .va (.int least), .no, .no, .no] S (retQ Q)
  suffices h : WSs T (k + 1) (L_some.drop 1) [.va (.ref n), .va d, .va (.int least), .ow (.lst (xs.map enc)), .no, .no] S (retQ Q) by
    rcases hds with rfl | rfl <;> simp_arith!
  show WSs T (k + 1) (_ :: _ :: _ :: []) _ _ _
  simp_arith!
  refine drawK hD hd (by omega) (by omega) fun v S1 v0 v1 d1 => ?_
  simp_arith!
  rw [rng_ok (by omega) (by omega)]
  simp_arith!
  refine wforR [3, 4, 5] [.ow (.lst (xs.map enc)), .ow (.lst []), .no] (fun j vs S' => ∃ (us left : List α) (a5 : Sl), vs = [.ow (.lst (left.map enc)), .ow (.lst (us.map enc)), a5] ∧ (us ++ left).Perm xs ∧ us.length = j ∧ Dk S0 S' n m) rfl ⟨[], xs, _, rfl, .refl _, rfl, d1⟩ ?_ ?_
  · rintro j vs S2 hj ⟨us, left, a5, rfl, p, ul, d2⟩
    have pl := p.length_eq
    rw [List.length_append] at pl
    simp_arith!
    refine drawK hD d2 (by omega) (by omega) fun y S3 y0 y1 d3 => ?_
    simp_arith!
    refine o_popAt y0 y1 (by omega) fun h => ?_
    have cat : us.map enc ++ [enc left[y.toNat]] = (us ++ [left[y.toNat]]).map enc := by rw [List.map_append]; rfl
    simp_arith! [cat]
    refine ⟨[_, _, _], rfl, us ++ [left[y.toNat]], _, _, rfl, ?_, by rw [List.length_append, ul]; rfl, d3⟩
    rw [List.append_assoc]
    exact ((erase_permT left y.toNat h).append_left us).trans p
  · rintro vs S2 ⟨us, left, a5, rfl, p, ul, d2⟩
    simp_arith!
    exact q us left S2 p (by omega) d2
end
theorem truth_ok {T : Tab} {k : Nat} (hF : T.F "_law_truth" = some ⟨2, 2, L_truth⟩) {S : Sto} {a b : Bool} : Pure T (k + 1) "_law_truth" [.bl a, .bl b] S (.fz (.bl (a == b))) := by
  refine wf_def hF rfl ?_
  show WSs T k L_truth [.va (.bl a), .va (.bl b)] S (retQ _)
  unfold L_truth
  simp_arith! [isaB isa_bb, eq_bl]
/-- what the methods of an object answer -/
structure Answers (T : Tab) (lvl : Nat) (c : Str) (S : Sto) (t : Nat) (w : Wish) (ns : List Nm) (ps : Rooms) : Prop where
  kept : ∃ m, T.M c "kept" = some m ∧ ∀ f S', Fits (cellsBy ps ns) f → Ext S S' → PureX T lvl m [.ref t, filD f] S' (.fz (.bl (keeps w f)))
  keep : ∃ m, T.M c "may_keep" = some m ∧ ∀ S', Ext S S' → ∃ a : Bool, (a = true ↔ ∃ f, Fits (cellsBy ps ns) f ∧ keeps w f = true) ∧ PureX T lvl m [.ref t, roomsD ps] S' (.fz (.bl a))
  brk : ∃ m, T.M c "may_break" = some m ∧ ∀ S', Ext S S' → ∃ a : Bool, (a = true ↔ ∃ f, Fits (cellsBy ps ns) f ∧ keeps w f = false) ∧ PureX T lvl m [.ref t, roomsD ps] S' (.fz (.bl a))
structure RightT (T : Tab) : Prop where
  R : T.F "_law_right" = some ⟨8, 4, L_right⟩
  Tr : T.F "_law_truth" = some ⟨2, 2, L_truth⟩
  Fi : T.F "_law_fillings" = some ⟨8, 2, L_fillings⟩
  Ke : T.F "_law_kept" = some ⟨11, 2, L_kept⟩
/-- rooms of cells, sound -/
structure RmsOk (ns : List Nm) (ps : Rooms) : Prop where
  nd : (akeys ps).Nodup
  ok : ∀ n ∈ ns, ∃ r, aget ps n = some r ∧ r ≠ [] ∧ r.length ≤ 10 ∧ r.Nodup ∧ VB r
theorem RmsOk.filOk {ns : List Nm} {ps : Rooms} (h : RmsOk ns ps) {f : Fil} (hf : Fits (cellsBy ps ns) f) : FilOk ns f := fun n hn => by
  obtain ⟨r, er, _, _, _, hb⟩ := h.ok n hn
  obtain ⟨v, hv, hr⟩ := fits_get hf (get_by hn er)
  exact ⟨v, hv, hb v hr⟩
theorem right_ok {T : Tab} {k : Nat} (hT : RightT T) {S : Sto} {t : Nat} {c : Str} {fs : List (Str × D)} {w : Wish} {ns : List Nm} {ps : Rooms} {Q : Op → Sto → Prop}
    (ht : S[t]? = some (.ins c fs)) (l0 : fs.lookup ("kept" : Str) = none) (l1 : fs.lookup ("may_keep" : Str) = none) (l2 : fs.lookup ("may_break" : Str) = none) (hnd : ns.Nodup) (hl : ns.length ≤ 900) (hr : RmsOk ns ps) (hb : nfills (cellsBy ps ns) ≤ 100000) (hw : WOk ns w) (hdp : w.deep ≤ 1)
    (A : Answers T (k + 2) c S t w ns ps) (q : ∀ S', Ext S S' → Q (.fz (.bl true)) S') : WF T (k + 3) "_law_right" [.ref t, w.d, .lst (ns.map strD), roomsD ps] S Q := by
  obtain ⟨mK, eK, hK⟩ := A.kept
  obtain ⟨mA, eA, hA⟩ := A.keep
  obtain ⟨mB, eB, hB⟩ := A.brk
  refine wf_def hT.R rfl ?_
  show WSs T (k + 2) (_ :: _ :: L_right.drop 2) [.va (.ref t), .va w.d, .va (.lst (ns.map strD)), .va (roomsD ps), .no, .no, .no, .no] S (retQ Q)
  simp_arith!
  refine fillings_ok (k := k + 1) hT.Fi rfl (fun _ _ => ⟨rfl, rfl⟩) hnd hl (fun n hn => (hr.ok n hn).imp fun r z => ⟨z.1, z.2.1⟩) hb line100k ?_
  have sq : ∀ xs : List Fil, seqD (.lst (xs.map filD)) = some (xs.map filD) := fun _ => rfl
  have at0' : isAt "kept" = false := by decide
  have at1' : isAt "may_keep" = false := by decide
  have at2' : isAt "may_break" = false := by decide
  have hfl : (fills (cellsBy ps ns)).length ≤ 100000 := by rw [fills_len]; exact hb
  have lm := line100k
  simp_arith! [sq]
  refine wforM (enc := filD) (xs := fills (cellsBy ps ns)) [4, 5, 6, 7] [.ow (.lst []), .no, .no, .no] (fun r vs S' => Ext S S' ∧ ∃ (dn : List Fil) (a5 a6 a7 : Sl), vs = [.ow (.lst ((dn.map (keeps w)).map .bl)), a5, a6, a7] ∧ dn ++ r = fills (cellsBy ps ns)) rfl ⟨.refl, [], _, _, _, rfl, rfl⟩ ?_ ?_
  · rintro f r vs S1 ⟨x1, dn, a5, a6, a7, rfl, e⟩
    have hf : Fits (cellsBy ps ns) f := mem_fills.mp (by rw [← e]; simp)
    have fnd : (akeys f).Nodup := by rw [fits_cnt hf hnd]; exact hnd
    have ht1 := x1.get ht
    have dnl : dn.length < (fills (cellsBy ps ns)).length := by
      have := congrArg List.length e
      rw [List.length_append, List.length_cons] at this
      omega
    have cat : (dn.map (keeps w)).map D.bl ++ [.bl (keeps w f)] = ((dn ++ [f]).map (keeps w)).map .bl := by rw [List.map_append, List.map_append]; rfl
    simp_arith!
    refine (lawkept_ok (k := k) hT.Ke (hr.filOk hf) hw hdp).elim ?_
    have dd : bfD .dict (filD f) = some (.fr (filD f)) := rfl
    simp_arith! [dd, asIns_of ht1, l0, eK, at0']
    refine (hK f S1 hf x1).elimX fun S2 x2 => ?_
    simp_arith!
    refine (truth_ok (k := k + 1) hT.Tr).elim ?_
    simp_arith! [ne_fil fnd, beq_self_eq_true, cat]
    exact ⟨[_, _, _, _], rfl, x1.trans x2, dn ++ [f], _, _, _, rfl, by rw [List.append_assoc]; exact e⟩
  · rintro vs S1 ⟨x1, dn, a5, a6, a7, rfl, e⟩
    rw [List.append_nil] at e
    subst e
    have ht1 := x1.get ht
    have dd : bfD .dict (roomsD ps) = some (.fr (roomsD ps)) := rfl
    obtain ⟨a, ia, ha⟩ := hA S1 x1
    show WSs T (k + 2) (_ :: _ :: _ :: []) _ _ _
    simp_arith! [dd, asIns_of ht1, l1, eA, at1']
    refine ha.elimX fun S2 x2 => ?_
    have ht2 := x2.get ht1
    obtain ⟨b, ib, hb'⟩ := hB S2 (x1.trans x2)
    have ea : (a == decide (true ∈ (fills (cellsBy ps ns)).map (keeps w))) = true := by
      rw [beq_iff_eq]
      refine bool_iff (ia.trans ?_)
      simp only [List.mem_map, mem_fills]
    have eb : (b == decide (false ∈ (fills (cellsBy ps ns)).map (keeps w))) = true := by
      rw [beq_iff_eq]
      refine bool_iff (ib.trans ?_)
      simp only [List.mem_map, mem_fills]
    simp_arith!
    refine (truth_ok (k := k + 1) hT.Tr).elim ?_
    simp_arith! [ea, asIns_of ht2, l2, eB, at2']
    refine hb'.elimX fun S3 x3 => ?_
    simp_arith!
    refine (truth_ok (k := k + 1) hT.Tr).elim ?_
    simp_arith! [eb, eq_rooms hr.nd]
    exact q S3 ((x1.trans x2).trans x3)

/-! Sk49: the sort table. -/
open PySem PySem.Spec
open L2 (ixN atI)
/-! ### plain -/
/-- all rows by rooms -/
def tups : List (List Int) → List (List Int)
  | [] => [[]]
  | r :: rs => r.flatMap fun v => (tups rs).map (v :: ·)
def prodL (rs : List (List Int)) : Nat := rs.foldr (fun r n => r.length * n) 1
theorem flatMap_len {α β : Type} {f : α → List β} {n : Nat} : ∀ {xs : List α}, (∀ x ∈ xs, (f x).length = n) → (xs.flatMap f).length = xs.length * n
  | [], _ => by simp
  | x :: xs, h => by
    have := flatMap_len (f := f) (xs := xs) fun y hy => h y (List.mem_cons_of_mem _ hy)
    rw [List.flatMap_cons, List.length_append, this, h x List.mem_cons_self, List.length_cons, Nat.succ_mul, Nat.add_comm]
theorem tups_len : ∀ rs, (tups rs).length = prodL rs
  | [] => rfl
  | r :: rs => by
    show (r.flatMap fun v => (tups rs).map (v :: ·)).length = r.length * prodL rs
    exact flatMap_len fun v _ => by rw [List.length_map, tups_len rs]
theorem mem_tups : ∀ {rs : List (List Int)} {p : List Int}, p ∈ tups rs ↔ All2 (fun v r => v ∈ r) p rs
  | [], p => by
    show p ∈ [[]] ↔ _
    rw [List.mem_singleton]
    exact ⟨fun h => h ▸ .nil, fun h => by cases h; rfl⟩
  | r :: rs, p => by
    show (p ∈ r.flatMap fun v => (tups rs).map (v :: ·)) ↔ _
    rw [List.mem_flatMap]
    constructor
    · rintro ⟨v, hv, hp⟩
      obtain ⟨q, hq, rfl⟩ := List.mem_map.mp hp
      exact .cons hv (mem_tups.mp hq)
    · intro h
      cases h with
      | cons h1 h2 => exact ⟨_, h1, List.mem_map_of_mem (mem_tups.mpr h2)⟩
theorem nodup_fm {α β : Type} {f : α → List β} : ∀ {xs : List α}, xs.Nodup → (∀ x ∈ xs, (f x).Nodup) → (∀ x ∈ xs, ∀ y ∈ xs, x ≠ y → ∀ z ∈ f x, z ∉ f y) → (xs.flatMap f).Nodup
  | [], _, _, _ => List.nodup_nil
  | x :: xs, h, h1, h2 => by
    rw [List.nodup_cons] at h
    rw [List.flatMap_cons, List.nodup_append]
    refine ⟨h1 x List.mem_cons_self, nodup_fm h.2 (fun y hy => h1 y (List.mem_cons_of_mem _ hy)) fun y hy z hz => h2 y (List.mem_cons_of_mem _ hy) z (List.mem_cons_of_mem _ hz), fun a ha b hb e => ?_⟩
    obtain ⟨y, hy, hb⟩ := List.mem_flatMap.mp hb
    exact h2 x List.mem_cons_self y (List.mem_cons_of_mem _ hy) (fun z => h.1 (z ▸ hy)) a ha (e ▸ hb)
theorem tups_nodup : ∀ {rs : List (List Int)}, (∀ r ∈ rs, r.Nodup) → (tups rs).Nodup
  | [], _ => by
    show ([[]] : List (List Int)).Nodup
    simp
  | r :: rs, h => by
    have ih := tups_nodup (rs := rs) fun x hx => h x (List.mem_cons_of_mem _ hx)
    have hr := h r List.mem_cons_self
    show (r.flatMap fun v => (tups rs).map (v :: ·)).Nodup
    refine nodup_fm hr (fun v _ => nodup_map_on (fun x _ y _ e => by injection e) ih) fun a _ b _ ne x hx hy => ?_
    obtain ⟨p, _, rfl⟩ := List.mem_map.mp hx
    obtain ⟨q, _, e⟩ := List.mem_map.mp hy
    injection e with e1 e2
    exact ne e1.symm
/-- the rows all of whose values are in the rooms -/
def rowOk (ps : Rooms) (cs : List Nm) (r : List Int) : Bool := (cs.zip r).all fun p => decide (p.2 ∈ roomOf ps p.1)
theorem rowOk_iff {ps : Rooms} : ∀ {cs : List Nm} {r : List Int}, r.length = cs.length → (rowOk ps cs r = true ↔ All2 (fun v r => v ∈ r) r (cs.map (roomOf ps)))
  | [], [], _ => ⟨fun _ => .nil, fun _ => rfl⟩
  | [], _ :: _, h => by cases h
  | _ :: _, [], h => by cases h
  | c :: cs, v :: r, h => by
    have ih := rowOk_iff (ps := ps) (cs := cs) (r := r) (by simpa using h)
    unfold rowOk at ih ⊢
    rw [List.zip_cons_cons, List.all_cons, Bool.and_eq_true, ih, decide_eq_true_eq, List.map_cons]
    exact ⟨fun z => .cons z.1 z.2, fun z => by cases z with | cons a b => exact ⟨a, b⟩⟩
theorem vals_ok {ps : Rooms} {ns cs : List Nm} {f : Fil} (hr : ∀ n ∈ ns, ∃ r, aget ps n = some r) (hf : Fits (cellsBy ps ns) f) (hc : ∀ c ∈ cs, c ∈ ns) : All2 (fun v r => v ∈ r) (valsOf f cs) (cs.map (roomOf ps)) := by
  unfold valsOf
  induction cs with
  | nil => exact .nil
  | cons c cs ih => exact .cons (fits_val hr hf (hc c List.mem_cons_self)) (ih fun d hd => hc d (List.mem_cons_of_mem _ hd))
/-- a filling with these values -/
theorem fill_of {ps : Rooms} {ns cs : List Nm} {p : List Int} (hne : ∀ n ∈ ns, roomOf ps n ≠ []) (hc : ∀ c ∈ cs, c ∈ ns) (hcn : cs.Nodup) (hp : All2 (fun v r => v ∈ r) p (cs.map (roomOf ps))) : ∃ f, Fits (cellsBy ps ns) f ∧ valsOf f cs = p := by
  have hlen : p.length = cs.length := by
    have : ∀ {a : List Int} {b : List (List Int)}, All2 (fun v r => v ∈ r) a b → a.length = b.length := fun h => by
      induction h with
      | nil => rfl
      | cons _ _ ih => rw [List.length_cons, List.length_cons, ih]
    have := this hp
    rw [List.length_map] at this
    exact this
  let zs : Fil := cs.zip p
  have zk : akeys zs = cs := by
    show (cs.zip p).map (·.1) = cs
    exact List.map_fst_zip (by omega)
  have zv : zs.map (·.2) = p := List.map_snd_zip (by omega)
  have zn : (akeys zs).Nodup := by rw [zk]; exact hcn
  have zr : ∀ x ∈ zs, x.2 ∈ roomOf ps x.1 := by
    have : ∀ {cs : List Nm} {p : List Int}, All2 (fun v r => v ∈ r) p (cs.map (roomOf ps)) → ∀ x ∈ cs.zip p, x.2 ∈ roomOf ps x.1 := by
      intro cs
      induction cs with
      | nil => intro p _ x hx; simp at hx
      | cons c cs ih =>
        intro p h x hx
        cases h with
        | cons a b =>
          rw [List.zip_cons_cons] at hx
          rcases List.mem_cons.mp hx with e | z
          · rw [e]; exact a
          · exact ih b x z
    exact this hp
  let g : Nm → Int := fun n => (aget zs n).getD ((roomOf ps n).headD 0)
  have hg : ∀ n ∈ ns, g n ∈ roomOf ps n := fun n hn => by
    show (aget zs n).getD ((roomOf ps n).headD 0) ∈ _
    cases e : aget zs n with
    | none =>
      have := hne n hn
      cases e2 : roomOf ps n with
      | nil => exact (this e2).elim
      | cons a r => simp
    | some v => exact zr _ (aget_mem e)
  refine ⟨ns.map fun n => (n, g n), fits_map hg, ?_⟩
  have e1 : valsOf (ns.map fun n => (n, g n)) cs = cs.map g := by
    unfold valsOf
    exact List.map_congr_left fun c h => val_map (hc c h)
  rw [e1]
  have e2 : cs.map g = zs.map (·.2) := by
    have e3 : cs.map g = (akeys zs).map g := by rw [zk]
    rw [e3]
    unfold akeys
    rw [List.map_map]
    refine List.map_congr_left fun x hx => ?_
    show (aget zs x.1).getD _ = x.2
    rw [aget_of zn hx]
    rfl
  rw [e2, zv]
theorem table_keep {ps : Rooms} {ns cs : List Nm} {rows : List (List Int)} (hr : ∀ n ∈ ns, ∃ r, aget ps n = some r) (hne : ∀ n ∈ ns, roomOf ps n ≠ []) (hc : ∀ c ∈ cs, c ∈ ns) (hcn : cs.Nodup) (hl : ∀ r ∈ rows, r.length = cs.length) :
    0 < (rows.filter (rowOk ps cs)).length ↔ ∃ f, Fits (cellsBy ps ns) f ∧ keeps (.table cs rows) f = true := by
  constructor
  · intro h
    obtain ⟨r, hm⟩ := List.exists_mem_of_length_pos h
    rw [List.mem_filter] at hm
    obtain ⟨f, hf, e⟩ := fill_of hne hc hcn ((rowOk_iff (hl r hm.1)).mp hm.2)
    exact ⟨f, hf, decide_eq_true (by rw [e]; exact hm.1)⟩
  · rintro ⟨f, hf, h⟩
    have h := of_decide_eq_true h
    exact List.length_pos_of_mem (List.mem_filter.mpr ⟨h, (rowOk_iff (hl _ h)).mpr (vals_ok hr hf hc)⟩)
theorem table_break {ps : Rooms} {ns cs : List Nm} {rows : List (List Int)} (hr : ∀ n ∈ ns, ∃ r, aget ps n = some r ∧ r.Nodup) (hne : ∀ n ∈ ns, roomOf ps n ≠ []) (hc : ∀ c ∈ cs, c ∈ ns) (hcn : cs.Nodup) (hl : ∀ r ∈ rows, r.length = cs.length) (hn : rows.Nodup) :
    (rows.filter (rowOk ps cs)).length < prodL (cs.map (roomOf ps)) ↔ ∃ f, Fits (cellsBy ps ns) f ∧ keeps (.table cs rows) f = false := by
  have sub : ∀ r ∈ rows.filter (rowOk ps cs), r ∈ tups (cs.map (roomOf ps)) := fun r hm => by
    rw [List.mem_filter] at hm
    exact mem_tups.mpr ((rowOk_iff (hl r hm.1)).mp hm.2)
  constructor
  · intro h
    refine Classical.byContradiction fun z => ?_
    have nd : (tups (cs.map (roomOf ps))).Nodup := tups_nodup fun r hm => by
      obtain ⟨c, hc', rfl⟩ := List.mem_map.mp hm
      obtain ⟨r, er, hrn⟩ := hr c (hc c hc')
      unfold roomOf
      rw [er]
      exact hrn
    have := nodup_len (ys := rows.filter (rowOk ps cs)) nd fun p hp => by
      have hp := mem_tups.mp hp
      obtain ⟨f, hf, e⟩ := fill_of hne hc hcn hp
      have : p ∈ rows := Classical.byContradiction fun y => z ⟨f, hf, decide_eq_false (by rw [e]; exact y)⟩
      exact List.mem_filter.mpr ⟨this, (rowOk_iff (hl p this)).mpr hp⟩
    rw [tups_len] at this
    omega
  · rintro ⟨f, hf, h⟩
    have h := of_decide_eq_false h
    have mem := mem_tups.mpr (vals_ok (fun n hn => (hr n hn).imp fun r z => z.1) hf hc)
    have nd : (valsOf f cs :: rows.filter (rowOk ps cs)).Nodup := by
      rw [List.nodup_cons]
      exact ⟨fun z => h (List.mem_filter.mp z).1, hn.sublist List.filter_sublist⟩
    have := nodup_len (ys := tups (cs.map (roomOf ps))) nd fun p hp => by
      rcases List.mem_cons.mp hp with e | z
      · rw [e]; exact mem
      · exact sub p z
    rw [tups_len, List.length_cons] at this
    omega
/-! ### the object -/
def pairSI (p : Nm × Int) : D := .tup [strD p.1, .int p.2]
theorem zipQ_SI {cs : List Nm} {r : List Int} {Q : List D → Prop} : zipQ (tupS cs) (tupI r) Q ↔ Q ((cs.zip r).map pairSI) := by
  show Q (zipD (cs.map strD) (r.map .int)) ↔ _
  have e : zipD (cs.map strD) (r.map .int) = (cs.zip r).map pairSI := by
    unfold zipD
    rw [List.zip_map, List.map_map]
    rfl
  rw [e]
structure TableT (T : Tab) : Prop where
  F0 : T.F "Table.kept" = some ⟨3, 2, M_Table_kept⟩
  F1 : T.F "Table.may_keep" = some ⟨2, 2, M_Table_may_keep⟩
  F2 : T.F "Table.may_break" = some ⟨4, 2, M_Table_may_break⟩
  F3 : T.F "Table.rows_in" = some ⟨6, 2, M_Table_rows_in⟩
  M0 : T.M "Table" "kept" = some ("Table.kept" : Str)
  M1 : T.M "Table" "may_keep" = some ("Table.may_keep" : Str)
  M2 : T.M "Table" "may_break" = some ("Table.may_break" : Str)
  M3 : T.M "Table" "rows_in" = some ("Table.rows_in" : Str)
  A : T.M "Table" (atName "wish") = some ("wish" : Str)
section
variable {T : Tab} {k : Nat} (hT : TableT T) {S : Sto} {t : Nat} {cs ns : List Nm} {rows : List (List Int)} {fs : List (Str × D)} {ps : Rooms} (ht : S[t]? = some (.ins "Table" fs)) (lw : fs.lookup ("wish" : Str) = some (Wish.table cs rows).d) (l3 : fs.lookup ("rows_in" : Str) = none)
include hT ht lw
theorem tkept_ok {f : Fil} (hf : FilOk ns f) (hc : ∀ c ∈ cs, c ∈ ns) (hl : cs.length ≤ 60) : Pure T (k + 1) "Table.kept" [.ref t, filD f] S (.fz (.bl (keeps (.table cs rows) f))) := by
  refine wf_def hT.F0 rfl ?_
  show WSs T k M_Table_kept [.va (.ref t), .va (filD f), .no] S (retQ _)
  unfold M_Table_kept
  have wd : (Wish.table cs rows).d = .tup [.str "table", tupS cs, .tup (rows.map tupI)] := rfl
  simp_arith! [asIns_of ht, hT.A, lw, wd]
  refine wlcN (enc := strD) (xs := cs) (fun n => .int (valOf f n)) (by have := line1m; omega) (fun n hn => ?_) ?_
  · simp_arith! [(hf.get (hc n hn)).1]
  have e : D.tup (cs.map fun n => D.int (valOf f n)) = tupI (valsOf f cs) := by
    show _ = D.tup ((valsOf f cs).map .int)
    unfold valsOf
    rw [List.map_map]
    rfl
  simp_arith! [e, asIns_of ht, hT.A, lw, wd]
  rfl
theorem trows_ok (hr : ∀ c ∈ cs, ∃ r, aget ps c = some r) (hl : cs.length ≤ 60) (hrl : rows.length ≤ 60) : Pure T (k + 1) "Table.rows_in" [.ref t, roomsD ps] S (.fr (.lst ((rows.filter (rowOk ps cs)).map tupI))) := by
  refine wf_def hT.F3 rfl ?_
  show WSs T k M_Table_rows_in [.va (.ref t), .va (roomsD ps), .no, .no, .no, .no] S (retQ _)
  unfold M_Table_rows_in
  have wd : (Wish.table cs rows).d = .tup [.str "table", tupS cs, .tup (rows.map tupI)] := rfl
  simp_arith! [asIns_of ht, hT.A, lw, wd]
  refine wlcP (enc := tupI) (xs := rows) (rowOk ps cs) tupI (by have := line1m; omega) (fun r hr' => ?_) ?_
  · simp_arith! [zipQ_SI]
    have zl : (cs.zip r).length ≤ 60 := by rw [List.length_zip]; omega
    refine wlcN (enc := pairSI) (xs := cs.zip r) (fun p => .bl (decide (p.2 ∈ roomOf ps p.1))) (by have := line1m; omega) (fun p hp => ?_) ?_
    · obtain ⟨rm, er⟩ := hr p.1 (List.of_mem_zip hp).1
      have pd : pairSI p = .tup [strD p.1, .int p.2] := rfl
      have ro : roomOf ps p.1 = rm := by unfold roomOf; rw [er]; rfl
      simp_arith! [pd, er, ro]
    have e : (cs.zip r).map (fun p => D.bl (decide (p.2 ∈ roomOf ps p.1))) = ((cs.zip r).map fun p => decide (p.2 ∈ roomOf ps p.1)).map .bl := by rw [List.map_map]; rfl
    have e2 : ((cs.zip r).map fun p => decide (p.2 ∈ roomOf ps p.1)).all id = rowOk ps cs r := by
      unfold rowOk
      rw [List.all_map]
      rfl
    rw [e]
    simp_arith! [e2]
    by_cases c : rowOk ps cs r = true
    · rw [if_pos c, if_pos c]
      exact ⟨c.symm, trivial⟩
    · rw [if_neg c, if_neg c]
      exact ⟨(Bool.eq_false_iff.mpr c).symm, trivial⟩
  simp_arith!
include l3
theorem tkeep_ok (hr : ∀ c ∈ cs, ∃ r, aget ps c = some r) (hl : cs.length ≤ 60) (hrl : rows.length ≤ 60) : Pure T (k + 2) "Table.may_keep" [.ref t, roomsD ps] S (.fz (.bl (decide (0 < (rows.filter (rowOk ps cs)).length)))) := by
  refine wf_def hT.F1 rfl ?_
  show WSs T (k + 1) M_Table_may_keep [.va (.ref t), .va (roomsD ps)] S (retQ _)
  unfold M_Table_may_keep
  have a3 : isAt "rows_in" = false := by decide
  simp_arith! [asIns_of ht, hT.M3, l3, a3]
  refine (trows_ok hT ht lw hr hl hrl).elim ?_
  simp_arith!
  rw [decide_eq_decide.mpr (show (0 : Int) < ((rows.filter (rowOk ps cs)).length : Nat) ↔ 0 < (rows.filter (rowOk ps cs)).length by omega)]
theorem tbreak_ok (hr : ∀ c ∈ cs, ∃ r, aget ps c = some r ∧ r.length ≤ 10) (hl : cs.length ≤ 60) (hrl : rows.length ≤ 60) : Pure T (k + 2) "Table.may_break" [.ref t, roomsD ps] S (.fz (.bl (decide ((rows.filter (rowOk ps cs)).length < prodL (cs.map (roomOf ps)))))) := by
  refine wf_def hT.F2 rfl ?_
  show WSs T (k + 1) M_Table_may_break [.va (.ref t), .va (roomsD ps), .no, .no] S (retQ _)
  unfold M_Table_may_break
  have wd : (Wish.table cs rows).d = .tup [.str "table", tupS cs, .tup (rows.map tupI)] := rfl
  have a3 : isAt "rows_in" = false := by decide
  simp_arith! [asIns_of ht, hT.A, lw, wd]
  refine wforM (enc := strD) (xs := cs) [2, 3] [.va (.int 1), .no] (fun r vs S' => S' = S ∧ ∃ (m : Nat) (a3 : Sl), vs = [.va (.int m), a3] ∧ m * prodL (r.map (roomOf ps)) = prodL (cs.map (roomOf ps)) ∧ ∀ c ∈ r, c ∈ cs) rfl ⟨rfl, 1, _, rfl, Nat.one_mul _, fun _ z => z⟩ ?_ ?_
  · rintro c r vs S1 ⟨rfl, m, a3, rfl, e, hs⟩
    obtain ⟨rm, er, rl⟩ := hr c (hs c List.mem_cons_self)
    have ro : roomOf ps c = rm := by unfold roomOf; rw [er]; rfl
    have mul : mulOk (m : Int) (rm.length : Nat) := .inl (.inr (by omega))
    simp_arith! [er, mul]
    refine ⟨[_, _], rfl, m * rm.length, _, rfl, ?_, fun d hd => hs d (List.mem_cons_of_mem _ hd)⟩
    rw [← e, List.map_cons, ro]
    show _ = m * (rm.length * prodL (r.map (roomOf ps)))
    rw [Nat.mul_assoc]
  · rintro vs S1 ⟨rfl, m, a4, rfl, e, hs⟩
    have e : m = prodL (cs.map (roomOf ps)) := by rw [← e]; exact (Nat.mul_one _).symm
    simp_arith! [asIns_of ht, hT.M3, l3, a3]
    refine (trows_ok hT ht lw (fun c h => (hr c h).imp fun r z => z.1) hl hrl).elim ?_
    simp_arith!
    rw [decide_eq_decide.mpr (show ((rows.filter (rowOk ps cs)).length : Nat) < (m : Int) ↔ (rows.filter (rowOk ps cs)).length < prodL (cs.map (roomOf ps)) by rw [e]; omega)]
end
theorem table_answers {T : Tab} {k : Nat} (hT : TableT T) {S : Sto} {t : Nat} {cs ns : List Nm} {rows : List (List Int)} {fs : List (Str × D)} {ps : Rooms} (ht : S[t]? = some (.ins "Table" fs)) (lw : fs.lookup ("wish" : Str) = some (Wish.table cs rows).d) (l3 : fs.lookup ("rows_in" : Str) = none)
    (hw : WOk ns (.table cs rows)) (hr : RmsOk ns ps) : Answers T (k + 2) "Table" S t (.table cs rows) ns ps := by
  obtain ⟨h1, h2, h3, h4⟩ := hw
  have h12 := h1.le
  have hg : ∀ c ∈ cs, ∃ r, aget ps c = some r := fun c h => (hr.ok c (h1.sub c h)).imp fun r z => z.1
  have hg2 : ∀ c ∈ cs, ∃ r, aget ps c = some r ∧ r.length ≤ 10 := fun c h => (hr.ok c (h1.sub c h)).imp fun r z => ⟨z.1, z.2.2.1⟩
  have hne : ∀ n ∈ ns, roomOf ps n ≠ [] := fun n hn => by
    obtain ⟨r, er, hne, _⟩ := hr.ok n hn
    unfold roomOf
    rw [er]
    exact hne
  refine ⟨⟨_, hT.M0, fun f S' hf x => (tkept_ok (k := k + 1) hT (x.get ht) lw (hr.filOk hf) h1.sub (by omega)).x⟩, ⟨_, hT.M1, fun S' x => ⟨_, ?_, (tkeep_ok hT (x.get ht) lw l3 hg (by omega) h3).x⟩⟩, ⟨_, hT.M2, fun S' x => ⟨_, ?_, (tbreak_ok hT (x.get ht) lw l3 hg2 (by omega) h3).x⟩⟩⟩
  · rw [decide_eq_true_eq]
    exact table_keep (fun n hn => (hr.ok n hn).imp fun r z => z.1) hne h1.sub h1.nd fun r hm => (h4 r hm).1
  · rw [decide_eq_true_eq]
    exact table_break (fun n hn => (hr.ok n hn).imp fun r z => ⟨z.1, z.2.2.2.1⟩) hne h1.sub h1.nd (fun r hm => (h4 r hm).1) h2

end Sk
namespace Lw
open PySem PySem.Spec PyProof.Rows L2 Sk
local macro_rules
  | `(tactic| simp_arith) => `(tactic| simp only [wss_cons, wss_nil, seqQ_nil, seqQ_nx, seqQ_rt, seqQ_bk, seqQ_ct, turnQ_nx, turnQ_ct, turnQ_bk, turnQ_rt, retQ_rt, retQ_nx, retO_fz, retO_fr, ws_asg, ws_asgO, ws_asgT, ws_asgP, ws_aug, ws_setI, ws_xpr, ws_ret, ws_retN, ws_ife, ws_whl, ws_for, ws_brk, ws_cnt, ws_pas, ws_frz, we_var, we_rd, we_mv, we_non, we_bl, we_int, we_str, we_tup, we_lst, we_dis, we_bop, we_neg, we_no, we_cmp, we_chn, we_and, we_orr, we_ite, we_sub, we_slc, we_rev, we_lrev, we_bf, we_bf2, we_mt, we_call, we_al, we_lc, wl_nil, wl_cons, wo_none, wo_some, wc_nil, wc_cons, wi_seq, wi_rng, wi_rng2, wi_keys, wi_items, wi_values, wi_enu, wi_zip, wi_revd, zipQ_lst, zipQ_tup, path_var, path_sub, slP_va, tupAt_some, asDct_map, List.getElem?_cons_zero, List.getElem?_cons_succ, List.set_cons_zero, List.set_cons_succ, slV_va, slR_va, slR_ow, slO_ow, slF_va, slF_ow, slC_ow, slS_ow, cont_sl, look_sl, setC_sl, cont_int, cont_str, cont_bl, cont_non, cont_tup, cont_lst, cont_dct, cont_fr, look_int, look_str, look_bl, look_non, look_tup, look_lst, look_dct, look_fr, dv_fz, dv_fr, asB_bl, asI_int, asL_lst, asT_tup, asFr_fr, ob_some, afterM_none, afterM_some, putC_lst, putC_dct, setM_cons, setM_nil, o_mul, o_fdiv, o_mod, o_add, o_sub, o_addL, o_addT, o_app, o_ins, o_clr, o_len, o_lenT, o_lenD, o_tupL, o_tupT, o_lstL, o_lstT, o_lstD, o_dctD, o_intI, o_intB, o_abs, o_max2, o_min2, o_sum, o_min, o_max, o_any, o_all, o_sorted, s_tup, s_lst, at0, at1, at2, at3, at4, atm1, cmp_eqI, cmp_neI, cmp_ltI, cmp_leI, cmp_gtI, cmp_geI, cmp_eqS, seq_tup, pairUp, List.foldl_nil, List.length_map, bt_one, bt_many, sa_nil, sa_cons, wt_nil, wt_cons, ixs_one, ixs_many, bk_nil, bk_cons, putO_some, no_nil, no_cons, slN_va, slN_no, Bool.true_and, Bool.and_true, true_and, and_true, if_true, if_false, Bool.false_eq_true, Bool.true_eq_false, not_true_eq_false, not_false_eq_true, decide_eq_true_eq, cont_map, look_map, cont_strD, look_strD, cont_tupI, look_tupI, cont_tupS, look_tupS, s_mapS, s_mapI, in_mapS, nin_mapS, in_mapI, nin_mapI, seq_tupI, seq_tupS, seq_lst, len_tupI, len_tupS, lst_tupI, lst_tupS, sub_tupI, sub_tupS, len_map, dct_map, lst_map, look_one, aug_add, in_bls, eq_bls, we_attr, we_meth, we_new, ws_setA, in_tupI, nin_tupI, in_tupIT, in_int, nin_int, in_intL, eq_tupI, ne_tupI, eq_intsL, Bool.not_true, Bool.not_false, Bool.not_eq_true', decide_eq_false_iff_not])
  | `(tactic| simp_arith [$xs,*]) => `(tactic| simp only [$xs,*, wss_cons, wss_nil, seqQ_nil, seqQ_nx, seqQ_rt, seqQ_bk, seqQ_ct, turnQ_nx, turnQ_ct, turnQ_bk, turnQ_rt, retQ_rt, retQ_nx, retO_fz, retO_fr, ws_asg, ws_asgO, ws_asgT, ws_asgP, ws_aug, ws_setI, ws_xpr, ws_ret, ws_retN, ws_ife, ws_whl, ws_for, ws_brk, ws_cnt, ws_pas, ws_frz, we_var, we_rd, we_mv, we_non, we_bl, we_int, we_str, we_tup, we_lst, we_dis, we_bop, we_neg, we_no, we_cmp, we_chn, we_and, we_orr, we_ite, we_sub, we_slc, we_rev, we_lrev, we_bf, we_bf2, we_mt, we_call, we_al, we_lc, wl_nil, wl_cons, wo_none, wo_some, wc_nil, wc_cons, wi_seq, wi_rng, wi_rng2, wi_keys, wi_items, wi_values, wi_enu, wi_zip, wi_revd, zipQ_lst, zipQ_tup, path_var, path_sub, slP_va, tupAt_some, asDct_map, List.getElem?_cons_zero, List.getElem?_cons_succ, List.set_cons_zero, List.set_cons_succ, slV_va, slR_va, slR_ow, slO_ow, slF_va, slF_ow, slC_ow, slS_ow, cont_sl, look_sl, setC_sl, cont_int, cont_str, cont_bl, cont_non, cont_tup, cont_lst, cont_dct, cont_fr, look_int, look_str, look_bl, look_non, look_tup, look_lst, look_dct, look_fr, dv_fz, dv_fr, asB_bl, asI_int, asL_lst, asT_tup, asFr_fr, ob_some, afterM_none, afterM_some, putC_lst, putC_dct, setM_cons, setM_nil, o_mul, o_fdiv, o_mod, o_add, o_sub, o_addL, o_addT, o_app, o_ins, o_clr, o_len, o_lenT, o_lenD, o_tupL, o_tupT, o_lstL, o_lstT, o_lstD, o_dctD, o_intI, o_intB, o_abs, o_max2, o_min2, o_sum, o_min, o_max, o_any, o_all, o_sorted, s_tup, s_lst, at0, at1, at2, at3, at4, atm1, cmp_eqI, cmp_neI, cmp_ltI, cmp_leI, cmp_gtI, cmp_geI, cmp_eqS, seq_tup, pairUp, List.foldl_nil, List.length_map, bt_one, bt_many, sa_nil, sa_cons, wt_nil, wt_cons, ixs_one, ixs_many, bk_nil, bk_cons, putO_some, no_nil, no_cons, slN_va, slN_no, Bool.true_and, Bool.and_true, true_and, and_true, if_true, if_false, Bool.false_eq_true, Bool.true_eq_false, not_true_eq_false, not_false_eq_true, decide_eq_true_eq, cont_map, look_map, cont_strD, look_strD, cont_tupI, look_tupI, cont_tupS, look_tupS, s_mapS, s_mapI, in_mapS, nin_mapS, in_mapI, nin_mapI, seq_tupI, seq_tupS, seq_lst, len_tupI, len_tupS, lst_tupI, lst_tupS, sub_tupI, sub_tupS, len_map, dct_map, lst_map, look_one, aug_add, in_bls, eq_bls, we_attr, we_meth, we_new, ws_setA, in_tupI, nin_tupI, in_tupIT, in_int, nin_int, in_intL, eq_tupI, ne_tupI, eq_intsL, Bool.not_true, Bool.not_false, Bool.not_eq_true', decide_eq_false_iff_not])
local macro_rules
  | `(tactic| simp_arith!) => `(tactic| ((repeat (first | simp_arith | (with_reducible refine And.intro ?_ ?_; · (first | trivial | decide | omega | assumption | (have := line1m; omega) | ((try simp only [List.length_map, List.length_append, List.length_cons, List.length_nil, List.length_take]); (have := line1m); omega))))); try (first | assumption | ((have := line1m); omega) | ((simp only [List.length_map, List.length_append, List.length_cons, List.length_nil, List.length_take]); (have := line1m); omega))))
  | `(tactic| simp_arith! [$xs,*]) => `(tactic| ((repeat (first | simp_arith [$xs,*] | (with_reducible refine And.intro ?_ ?_; · (first | trivial | decide | omega | assumption | (have := line1m; omega) | ((try simp only [List.length_map, List.length_append, List.length_cons, List.length_nil, List.length_take]); (have := line1m); omega))))); try (first | assumption | ((have := line1m); omega) | ((simp only [List.length_map, List.length_append, List.length_cons, List.length_nil, List.length_take]); (have := line1m); omega))))
def top (i : Nat) : Stmt := PySem.Challenge.pw_seekhall_k16_tables.main.body.getD i (.Pass ⟨0, 0, 0, 0⟩)
def c_Table___init__ : List CS := [
  .setA (.var 0) "wish" (.var 1)]
def d_Table___init__ : Dn := ⟨"Table.__init__", ["self", "wish"], ["self", "wish"], c_Table___init__, defArgs (inClass (top 1) 0), defBody (inClass (top 1) 0), defScope (inClass (top 1) 0), "__init__", "Wish.__init__", some "Table"⟩
theorem b_Table___init__ : (d_Table___init__).Bd := fun _ _ _ _ _ _ us hl => match us, hl with | [_, _], _ => rfl
theorem o_Table___init__ : (d_Table___init__).ok = true := by decide +kernel
def c_Table_kept : List CS := [
  .ret (.cmp .inn (.bf .tuple (.lc (.sub (.var 1) (.var 2)) (.one 2) (.seq (.sub (.attr (.var 0) "wish") (.int 1))) [])) (.sub (.attr (.var 0) "wish") (.int 2)))]
def d_Table_kept : Dn := ⟨"Table.kept", ["self", "filling", "name"], ["self", "filling"], c_Table_kept, defArgs (inClass (top 3) 0), defBody (inClass (top 3) 0), defScope (inClass (top 3) 0), "kept", "Table.kept", some "Table"⟩
theorem b_Table_kept : (d_Table_kept).Bd := fun _ _ _ _ _ _ us hl => match us, hl with | [_, _], _ => rfl
theorem o_Table_kept : (d_Table_kept).ok = true := by decide +kernel
def c_Table_may_keep : List CS := [
  .ret (.cmp .gt (.bf .len (.meth "rows_in" (.var 0) [.var 1])) (.int 0))]
def d_Table_may_keep : Dn := ⟨"Table.may_keep", ["self", "rooms"], ["self", "rooms"], c_Table_may_keep, defArgs (inClass (top 3) 2), defBody (inClass (top 3) 2), defScope (inClass (top 3) 2), "may_keep", "Table.may_keep", some "Table"⟩
theorem b_Table_may_keep : (d_Table_may_keep).Bd := fun _ _ _ _ _ _ us hl => match us, hl with | [_, _], _ => rfl
theorem o_Table_may_keep : (d_Table_may_keep).ok = true := by decide +kernel
def c_Table_may_break : List CS := [
  .asg 2 (.int 1),
  .for_ (.one 3) (.seq (.sub (.attr (.var 0) "wish") (.int 1)))
  [.asg 2 (.bop .mul (.var 2) (.bf .len (.sub (.var 1) (.var 3))))],
  .ret (.cmp .gt (.var 2) (.bf .len (.meth "rows_in" (.var 0) [.var 1])))]
def d_Table_may_break : Dn := ⟨"Table.may_break", ["self", "rooms", "many", "name"], ["self", "rooms"], c_Table_may_break, defArgs (inClass (top 3) 3), defBody (inClass (top 3) 3), defScope (inClass (top 3) 3), "may_break", "Table.may_break", some "Table"⟩
theorem b_Table_may_break : (d_Table_may_break).Bd := fun _ _ _ _ _ _ us hl => match us, hl with | [_, _], _ => rfl
theorem o_Table_may_break : (d_Table_may_break).ok = true := by decide +kernel
def c_Table_rows_in : List CS := [
  .asg 2 (.sub (.attr (.var 0) "wish") (.int 1)),
  .ret (.lc (.var 3) (.one 3) (.seq (.sub (.attr (.var 0) "wish") (.int 2))) [.bf .all (.lc (.cmp .inn (.var 5) (.sub (.var 1) (.var 4))) (.many [4, 5]) (.zip (.var 2) (.var 3)) [])])]
def d_Table_rows_in : Dn := ⟨"Table.rows_in", ["self", "rooms", "names", "row", "name", "value"], ["self", "rooms"], c_Table_rows_in, defArgs (inClass (top 3) 1), defBody (inClass (top 3) 1), defScope (inClass (top 3) 1), "rows_in", "Table.rows_in", some "Table"⟩
theorem b_Table_rows_in : (d_Table_rows_in).Bd := fun _ _ _ _ _ _ us hl => match us, hl with | [_, _], _ => rfl
theorem o_Table_rows_in : (d_Table_rows_in).ok = true := by decide +kernel
def c__law_deal : List CS := [
  .asg 2 (.lc (.bf2 .max2 (.var 3) (.bop .sub (.int 0) (.var 3))) (.one 3) (.seq (.slc (.var 0) (some (.var 1)) (some (.int 63)))) []),
  .asg 4 (.bop .add (.int 7919) (.var 1)),
  .for_ (.one 3) (.seq (.var 2))
  [.asg 4 (.bop .mod (.bop .add (.bop .mul (.var 4) (.int 69621)) (.var 3)) (.int 2147483647))],
  .ret (.dis [.str "mixed", .bop .mod (.bf .sum (.slc (.var 0) none (some (.int 1)))) (.int 2), .str "seed", .var 4, .str "number", .int 0, .str "left", .al (.lrev (.var 2))])]
def d__law_deal : Dn := ⟨"_law_deal", ["_law_script", "_law_start", "_law_cells", "_law_cell", "_law_number"], ["_law_script", "_law_start"], c__law_deal, defArgs (top 5), defBody (top 5), defScope (top 5), "_law_deal", "_law_deal", none⟩
theorem b__law_deal : (d__law_deal).Bd := fun _ _ _ _ _ _ us hl => match us, hl with | [_, _], _ => rfl
theorem o__law_deal : (d__law_deal).ok = true := by decide +kernel
def c__law_draw : List CS := [
  .whl (.and (.cmp .eq (.sub (.var 0) (.str "number")) (.int 0)) (.and (.cmp .gt (.bf .len (.sub (.var 0) (.str "left"))) (.int 0)) (.cmp .eq (.sub (.var 0) (.str "mixed")) (.int 0))))
  [.setI (.var 0) (.str "number") (.mt .pop (.sub (.var 0) (.str "left")) [])],
  .asg 2 (.sub (.var 0) (.str "number")),
  .ife (.cmp .gt (.var 2) (.int 0))
  [.setI (.var 0) (.str "number") (.bop .fdiv (.var 2) (.var 1)), .ret (.bop .mod (.var 2) (.var 1))]
  [],
  .asg 3 (.bop .mod (.bop .add (.bop .mul (.sub (.var 0) (.str "seed")) (.int 48271)) (.int 7919)) (.int 2147483647)),
  .setI (.var 0) (.str "seed") (.bop .mod (.bop .add (.bop .mul (.var 3) (.int 40692)) (.int 104729)) (.int 2147483399)),
  .asg 4 (.bop .mod (.bop .mul (.sub (.var 0) (.str "seed")) (.sub (.var 0) (.str "seed"))) (.int 2147483563)),
  .ret (.bop .mod (.bop .add (.bop .mul (.bop .mod (.bop .mul (.var 3) (.var 3)) (.int 2147483629)) (.int 2147483563)) (.var 4)) (.var 1))]
def d__law_draw : Dn := ⟨"_law_draw", ["_law_deal_here", "_law_many", "_law_number", "_law_one", "_law_other"], ["_law_deal_here", "_law_many"], c__law_draw, defArgs (top 6), defBody (top 6), defScope (top 6), "_law_draw", "_law_draw", none⟩
theorem b__law_draw : (d__law_draw).Bd := fun _ _ _ _ _ _ us hl => match us, hl with | [_, _], _ => rfl
theorem o__law_draw : (d__law_draw).ok = true := by decide +kernel
def c__law_names : List CS := [
  .asg 2 (.str "abcdefghijklmnopqrstuvwxyz"),
  .asgO 3 (.lst []),
  .for_ (.one 4) (.rng (.var 1))
  [.asg 5 (.mt .join (.str "") [.lc (.sub (.var 2) (.call "_law_draw" [.var 0, .int 26])) (.one 6) (.rng (.bop .add (.int 1) (.call "_law_draw" [.var 0, .int 8]))) []]), .ife (.and (.cmp .gt (.var 4) (.int 0)) (.cmp .eq (.call "_law_draw" [.var 0, .int 2]) (.int 0)))
  [.asg 7 (.call "_law_draw" [.var 0, .bf .len (.sub (.rd 3) (.neg (.int 1)))]), .asg 5 (.bop .add (.bop .add (.slc (.sub (.rd 3) (.neg (.int 1))) none (some (.var 7))) (.sub (.var 5) (.int 0))) (.slc (.sub (.rd 3) (.neg (.int 1))) (some (.bop .add (.var 7) (.int 1))) none))]
  [], .whl (.orr (.cmp .inn (.var 5) (.rd 3)) (.cmp .inn (.var 5) (.lst [.str "in", .str "from", .str "to", .str "end"])))
  [.asg 5 (.bop .add (.sub (.var 2) (.bop .mod (.bop .add (.mt .index (.var 2) [.sub (.var 5) (.int 0)]) (.int 1)) (.int 26))) (.slc (.var 5) (some (.int 1)) none))], .xpr (.mt .append (.rd 3) [.var 5])],
  .ret (.mv 3)]
def d__law_names : Dn := ⟨"_law_names", ["_law_deal_here", "_law_many", "_law_letters", "_law_names_here", "_law_k", "_law_word", "_law_j", "_law_place"], ["_law_deal_here", "_law_many"], c__law_names, defArgs (top 7), defBody (top 7), defScope (top 7), "_law_names", "_law_names", none⟩
theorem b__law_names : (d__law_names).Bd := fun _ _ _ _ _ _ us hl => match us, hl with | [_, _], _ => rfl
theorem o__law_names : (d__law_names).ok = true := by decide +kernel
def c__law_pool : List CS := [
  .asg 1 (.bop .sub (.call "_law_draw" [.var 0, .int 7]) (.int 3)),
  .ife (.cmp .eq (.call "_law_draw" [.var 0, .int 3]) (.int 0))
  [.asg 1 (.bop .sub (.call "_law_draw" [.var 0, .int 1999000]) (.int 999500))]
  [],
  .asgO 2 (.lst []),
  .for_ (.one 3) (.rng (.int 5))
  [.xpr (.mt .append (.rd 2) [.var 1]), .asg 1 (.bop .add (.bop .add (.var 1) (.int 1)) (.sub (.lst [.int 0, .call "_law_draw" [.var 0, .int 4], .int 97]) (.call "_law_draw" [.var 0, .int 3])))],
  .ret (.mv 2)]
def d__law_pool : Dn := ⟨"_law_pool", ["_law_deal_here", "_law_value", "_law_pool_here", "_law_k"], ["_law_deal_here"], c__law_pool, defArgs (top 8), defBody (top 8), defScope (top 8), "_law_pool", "_law_pool", none⟩
theorem b__law_pool : (d__law_pool).Bd := fun _ _ _ _ _ _ us hl => match us, hl with | [_], _ => rfl
theorem o__law_pool : (d__law_pool).ok = true := by decide +kernel
def c__law_rooms : List CS := [
  .asgO 4 (.dis []),
  .for_ (.one 5) (.seq (.var 1))
  [.asg 6 (.lc (.var 7) (.one 7) (.seq (.var 2)) [.cmp .eq (.call "_law_draw" [.var 0, .int 2]) (.int 1)]), .setI (.rd 4) (.var 5) (.bf .tuple (.slc (.var 6) none (some (.var 3)))), .ife (.cmp .eq (.var 6) (.lst []))
  [.setI (.rd 4) (.var 5) (.tup [.sub (.var 2) (.call "_law_draw" [.var 0, .int 5])])]
  []],
  .ret (.mv 4)]
def d__law_rooms : Dn := ⟨"_law_rooms", ["_law_deal_here", "_law_names_here", "_law_pool_here", "_law_most", "_law_rooms_here", "_law_name", "_law_some_here", "_law_value"], ["_law_deal_here", "_law_names_here", "_law_pool_here", "_law_most"], c__law_rooms, defArgs (top 9), defBody (top 9), defScope (top 9), "_law_rooms", "_law_rooms", none⟩
theorem b__law_rooms : (d__law_rooms).Bd := fun _ _ _ _ _ _ us hl => match us, hl with | [_, _, _, _], _ => rfl
theorem o__law_rooms : (d__law_rooms).ok = true := by decide +kernel
def c__law_some : List CS := [
  .asgO 3 (.bf .list (.var 1)),
  .asgO 4 (.lst []),
  .for_ (.one 5) (.rng (.bop .add (.var 2) (.call "_law_draw" [.var 0, .bop .add (.bop .sub (.bf .len (.rd 3)) (.var 2)) (.int 1)])))
  [.xpr (.mt .append (.rd 4) [.mt .popAt (.rd 3) [.call "_law_draw" [.var 0, .bf .len (.rd 3)]]])],
  .ret (.bf .tuple (.rd 4))]
def d__law_some : Dn := ⟨"_law_some", ["_law_deal_here", "_law_things", "_law_least", "_law_left", "_law_found", "_law_k"], ["_law_deal_here", "_law_things", "_law_least"], c__law_some, defArgs (top 10), defBody (top 10), defScope (top 10), "_law_some", "_law_some", none⟩
theorem b__law_some : (d__law_some).Bd := fun _ _ _ _ _ _ us hl => match us, hl with | [_, _, _], _ => rfl
theorem o__law_some : (d__law_some).ok = true := by decide +kernel
def c__law_rows : List CS := [
  .asgO 3 (.lst []),
  .for_ (.one 4) (.rng (.call "_law_draw" [.var 0, .int 7]))
  [.asg 5 (.bf .tuple (.lc (.sub (.var 2) (.call "_law_draw" [.var 0, .int 5])) (.one 6) (.seq (.var 1)) [])), .ife (.cmp .nin (.var 5) (.rd 3))
  [.xpr (.mt .append (.rd 3) [.var 5])]
  []],
  .ret (.bf .tuple (.rd 3))]
def d__law_rows : Dn := ⟨"_law_rows", ["_law_deal_here", "_law_some_here", "_law_pool_here", "_law_rows_here", "_law_k", "_law_row", "_law_name"], ["_law_deal_here", "_law_some_here", "_law_pool_here"], c__law_rows, defArgs (top 11), defBody (top 11), defScope (top 11), "_law_rows", "_law_rows", none⟩
theorem b__law_rows : (d__law_rows).Bd := fun _ _ _ _ _ _ us hl => match us, hl with | [_, _, _], _ => rfl
theorem o__law_rows : (d__law_rows).ok = true := by decide +kernel
def c__law_kept : List CS := [
  .ife (.cmp .eq (.sub (.var 0) (.int 0)) (.str "same"))
  [.ret (.cmp .eq (.cmp .inn (.sub (.var 1) (.sub (.var 0) (.int 1))) (.sub (.var 0) (.int 2))) (.call "_law_kept" [.sub (.var 0) (.int 3), .var 1]))]
  [],
  .ife (.cmp .eq (.sub (.var 0) (.int 0)) (.str "sum"))
  [.asg 2 (.bf .sum (.lc (.bop .mul (.var 3) (.sub (.var 1) (.var 4))) (.many [3, 4]) (.seq (.sub (.var 0) (.int 1))) [])), .ret (.and (.orr (.cmp .is (.sub (.var 0) (.int 2)) (.non)) (.cmp .ge (.var 2) (.sub (.var 0) (.int 2)))) (.orr (.cmp .is (.sub (.var 0) (.int 3)) (.non)) (.cmp .le (.var 2) (.sub (.var 0) (.int 3)))))]
  [],
  .ife (.cmp .eq (.sub (.var 0) (.int 0)) (.str "many"))
  [.ret (.chn .le .le (.sub (.var 0) (.int 3)) (.bf .len (.lc (.var 4) (.one 4) (.seq (.sub (.var 0) (.int 2))) [.cmp .inn (.sub (.var 1) (.var 4)) (.sub (.var 0) (.int 1))])) (.sub (.var 0) (.int 4)))]
  [],
  .asg 5 (.lc (.sub (.var 1) (.var 4)) (.one 4) (.seq (.sub (.var 0) (.int 1))) []),
  .ife (.cmp .eq (.sub (.var 0) (.int 0)) (.str "unlike"))
  [.ret (.cmp .eq (.bf .lenset (.var 5)) (.bf .len (.var 5)))]
  [],
  .ife (.cmp .eq (.sub (.var 0) (.int 0)) (.str "table"))
  [.ret (.cmp .inn (.bf .tuple (.var 5)) (.sub (.var 0) (.int 2)))]
  [],
  .ife (.cmp .eq (.sub (.var 0) (.int 0)) (.str "behind"))
  [.ret (.bf .all (.lc (.cmp .le (.bop .add (.sub (.var 5) (.var 6)) (.sub (.var 0) (.int 2))) (.sub (.var 5) (.bop .add (.var 6) (.int 1)))) (.one 6) (.rng (.bop .sub (.bf .len (.var 5)) (.int 1))) []))]
  [],
  .asg 7 (.int 0),
  .for_ (.one 8) (.seq (.var 5))
  [.asg 9 (.lc (.sub (.var 10) (.int 2)) (.one 10) (.seq (.sub (.var 0) (.int 2))) [.cmp .eq (.slc (.var 10) none (some (.int 2))) (.tup [.var 7, .var 8])]), .ife (.cmp .eq (.var 9) (.lst []))
  [.ret (.bl false)]
  [], .asg 7 (.sub (.var 9) (.int 0))],
  .ret (.cmp .inn (.var 7) (.sub (.var 0) (.int 3)))]
def d__law_kept : Dn := ⟨"_law_kept", ["_law_wish", "_law_filling", "_law_total", "_law_a", "_law_name", "_law_values", "_law_k", "_law_state", "_law_value", "_law_after", "_law_step"], ["_law_wish", "_law_filling"], c__law_kept, defArgs (top 12), defBody (top 12), defScope (top 12), "_law_kept", "_law_kept", none⟩
theorem b__law_kept : (d__law_kept).Bd := fun _ _ _ _ _ _ us hl => match us, hl with | [_, _], _ => rfl
theorem o__law_kept : (d__law_kept).ok = true := by decide +kernel
def c__law_fillings : List CS := [
  .asg 2 (.lst [.dis []]),
  .for_ (.one 3) (.seq (.var 0))
  [.asgO 4 (.lst []), .for_ (.one 5) (.seq (.var 2))
  [.for_ (.one 6) (.seq (.sub (.var 1) (.var 3)))
  [.asgO 7 (.bf .dict (.var 5)), .setI (.rd 7) (.var 3) (.var 6), .xpr (.mt .append (.rd 4) [.mv 7])]], .frz 4 (.asg 2 (.rd 4))],
  .ret (.var 2)]
def d__law_fillings : Dn := ⟨"_law_fillings", ["_law_names_here", "_law_rooms_here", "_law_fillings_here", "_law_name", "_law_more", "_law_filling", "_law_value", "_law_other"], ["_law_names_here", "_law_rooms_here"], c__law_fillings, defArgs (top 13), defBody (top 13), defScope (top 13), "_law_fillings", "_law_fillings", none⟩
theorem b__law_fillings : (d__law_fillings).Bd := fun _ _ _ _ _ _ us hl => match us, hl with | [_, _], _ => rfl
theorem o__law_fillings : (d__law_fillings).ok = true := by decide +kernel
def c__law_truth : List CS := [
  .ret (.and (.bf (.isa "bool") (.var 0)) (.cmp .eq (.var 0) (.var 1)))]
def d__law_truth : Dn := ⟨"_law_truth", ["_law_found", "_law_due"], ["_law_found", "_law_due"], c__law_truth, defArgs (top 14), defBody (top 14), defScope (top 14), "_law_truth", "_law_truth", none⟩
theorem b__law_truth : (d__law_truth).Bd := fun _ _ _ _ _ _ us hl => match us, hl with | [_, _], _ => rfl
theorem o__law_truth : (d__law_truth).ok = true := by decide +kernel
def c__law_right : List CS := [
  .asgO 4 (.lst []),
  .for_ (.one 5) (.seq (.call "_law_fillings" [.var 2, .var 3]))
  [.asg 6 (.call "_law_kept" [.var 1, .var 5]), .asg 7 (.bf .dict (.var 5)), .ife (.orr (.no (.call "_law_truth" [.meth "kept" (.var 0) [.var 7], .var 6])) (.cmp .ne (.var 7) (.var 5)))
  [.ret (.bl false)]
  [], .xpr (.mt .append (.rd 4) [.var 6])],
  .asg 7 (.bf .dict (.var 3)),
  .ife (.orr (.no (.call "_law_truth" [.meth "may_keep" (.var 0) [.var 7], .cmp .inn (.bl true) (.rd 4)])) (.no (.call "_law_truth" [.meth "may_break" (.var 0) [.var 7], .cmp .inn (.bl false) (.rd 4)])))
  [.ret (.bl false)]
  [],
  .ret (.cmp .eq (.var 7) (.var 3))]
def d__law_right : Dn := ⟨"_law_right", ["_law_thing", "_law_wish", "_law_names_here", "_law_rooms_here", "_law_kept_here", "_law_filling", "_law_due", "_law_handed"], ["_law_thing", "_law_wish", "_law_names_here", "_law_rooms_here"], c__law_right, defArgs (top 15), defBody (top 15), defScope (top 15), "_law_right", "_law_right", none⟩
theorem b__law_right : (d__law_right).Bd := fun _ _ _ _ _ _ us hl => match us, hl with | [_, _, _, _], _ => rfl
theorem o__law_right : (d__law_right).ok = true := by decide +kernel
def c__law_table : List CS := [
  .asg 4 (.call "_law_rows" [.var 0, .var 1, .var 3]),
  .asg 5 (.call "_law_draw" [.var 0, .int 3]),
  .ife (.cmp .eq (.var 5) (.int 1))
  [.asg 4 (.bf .tuple (.lc (.bf .tuple (.lc (.sub (.var 7) (.var 6)) (.one 6) (.seq (.var 1)) [])) (.one 7) (.seq (.call "_law_fillings" [.var 1, .var 2])) [])), .asg 8 (.call "_law_draw" [.var 0, .bf .len (.var 4)]), .asg 4 (.sub (.lst [.var 4, .bop .add (.slc (.var 4) none (some (.var 8))) (.slc (.var 4) (some (.bop .add (.var 8) (.int 1))) none)]) (.call "_law_draw" [.var 0, .int 2]))]
  [],
  .ret (.tup [.str "table", .var 1, .slc (.var 4) none (some (.int 60))])]
def d__law_table : Dn := ⟨"_law_table", ["_law_deal_here", "_law_some_here", "_law_rooms_here", "_law_pool_here", "_law_rows_here", "_law_way", "_law_name", "_law_filling", "_law_at"], ["_law_deal_here", "_law_some_here", "_law_rooms_here", "_law_pool_here"], c__law_table, defArgs (top 16), defBody (top 16), defScope (top 16), "_law_table", "_law_table", none⟩
theorem b__law_table : (d__law_table).Bd := fun _ _ _ _ _ _ us hl => match us, hl with | [_, _, _, _], _ => rfl
theorem o__law_table : (d__law_table).ok = true := by decide +kernel
def c_law : List CS := [
  .asg 1 (.al (.call "_law_deal" [.var 0, .int 0])),
  .asg 2 (.call "_law_names" [.var 1, .bop .add (.int 1) (.call "_law_draw" [.var 1, .int 4])]),
  .asg 3 (.call "_law_pool" [.var 1]),
  .asg 4 (.call "_law_rooms" [.var 1, .var 2, .var 3, .int 3]),
  .asg 5 (.call "_law_some" [.var 1, .var 2, .int 1]),
  .asg 6 (.call "_law_table" [.var 1, .var 5, .var 4, .var 3]),
  .asg 7 (.new "Table" [.var 6]),
  .asgO 8 (.dis []),
  .for_ (.one 9) (.seq (.var 2))
  [.setI (.rd 8) (.var 9) (.bf .tuple (.bf .sorted (.call "_law_some" [.var 1, .sub (.var 4) (.var 9), .int 1])))],
  .frz 8 (.ife (.orr (.no (.call "_law_right" [.var 7, .var 6, .var 2, .var 4])) (.no (.call "_law_right" [.var 7, .var 6, .var 2, .rd 8])))
  [.ret (.bl false)]
  []),
  .ret (.call "_law_right" [.var 7, .var 6, .var 2, .var 4])]
def d_law : Dn := ⟨"law", ["_law_script", "_law_deal_here", "_law_names_here", "_law_pool_here", "_law_rooms_here", "_law_some_here", "_law_wish", "_law_thing", "_law_less", "_law_name"], ["_law_script"], c_law, defArgs (top 17), defBody (top 17), defScope (top 17), "law", "law", none⟩
theorem b_law : (d_law).Bd := fun _ _ _ _ _ _ us hl => match us, hl with | [_], _ => rfl
theorem o_law : (d_law).ok = true := by decide +kernel
def ds : List Dn := [d_Table___init__, d_Table_kept, d_Table_may_keep, d_Table_may_break, d_Table_rows_in, d__law_deal, d__law_draw, d__law_names, d__law_pool, d__law_rooms, d__law_some, d__law_rows, d__law_kept, d__law_fillings, d__law_truth, d__law_right, d__law_table, d_law]
def ms : List Mkd := [("Table", 1, "Table.__init__")]
def nas : List (Str × Str) := [("Table", "wish")]
def cs : List (Str × D) := []
abbrev T : Tab := mkT ds ms nas cs
def fa : List He.Fa := faOf ds ms nas
def fn : List He.DefD := ds.map Dn.def_
def loose : List PySem.Str := ["Wish", "Table", "_law_deal", "_law_draw", "_law_names", "_law_pool", "_law_rooms", "_law_some", "_law_rows", "_law_kept", "_law_fillings", "_law_truth", "_law_right", "_law_table"]
abbrev R : PySem.W.OpenRow := PySem.W.OpenLaw.row PySem.Challenge.rw_seekhall_k16_tables
abbrev hk : PySem.W.Hook := hookC 4 fa fn cs
def obh (s : PySem.W.SharedT) : AlC := obsCG 4 fa fn cs (HandSHeadRun.getT s)
theorem obh_eq (s : PySem.W.SharedT) : obh s = hk.obs s.abs := obsCG_eq (HandSHeadRun.getT_eq s)
theorem run (w : World) : HandSHeadRun.RunEq R (PySem.W.view R.prog [17]) hk obh 20000 loose w := by
  intro os
  kernel_rfl
theorem oks : ∀ d ∈ ds, d.ok = true ∧ d.Bd := by
  intro d hd
  simp only [ds, List.mem_cons, List.not_mem_nil, or_false] at hd
  rcases hd with rfl | rfl | rfl | rfl | rfl | rfl | rfl | rfl | rfl | rfl | rfl | rfl | rfl | rfl | rfl | rfl | rfl | rfl
  · exact ⟨o_Table___init__, b_Table___init__⟩
  · exact ⟨o_Table_kept, b_Table_kept⟩
  · exact ⟨o_Table_may_keep, b_Table_may_keep⟩
  · exact ⟨o_Table_may_break, b_Table_may_break⟩
  · exact ⟨o_Table_rows_in, b_Table_rows_in⟩
  · exact ⟨o__law_deal, b__law_deal⟩
  · exact ⟨o__law_draw, b__law_draw⟩
  · exact ⟨o__law_names, b__law_names⟩
  · exact ⟨o__law_pool, b__law_pool⟩
  · exact ⟨o__law_rooms, b__law_rooms⟩
  · exact ⟨o__law_some, b__law_some⟩
  · exact ⟨o__law_rows, b__law_rows⟩
  · exact ⟨o__law_kept, b__law_kept⟩
  · exact ⟨o__law_fillings, b__law_fillings⟩
  · exact ⟨o__law_truth, b__law_truth⟩
  · exact ⟨o__law_right, b__law_right⟩
  · exact ⟨o__law_table, b__law_table⟩
  · exact ⟨o_law, b_law⟩
theorem uqs : ∀ d ∈ ds, tabF ds ms d.name = some d.fn := by
  intro d hd
  simp only [ds, List.mem_cons, List.not_mem_nil, or_false] at hd
  rcases hd with rfl | rfl | rfl | rfl | rfl | rfl | rfl | rfl | rfl | rfl | rfl | rfl | rfl | rfl | rfl | rfl | rfl | rfl
  · kernel_rfl
  · kernel_rfl
  · kernel_rfl
  · kernel_rfl
  · kernel_rfl
  · kernel_rfl
  · kernel_rfl
  · kernel_rfl
  · kernel_rfl
  · kernel_rfl
  · kernel_rfl
  · kernel_rfl
  · kernel_rfl
  · kernel_rfl
  · kernel_rfl
  · kernel_rfl
  · kernel_rfl
  · kernel_rfl
theorem mks : ∀ p ∈ ms, ∃ d ∈ ds, d.name = p.2.2 ∧ d.cls = some p.1 ∧ d.py = "__init__" := by
  intro p hp
  simp only [ms, List.mem_cons, List.not_mem_nil, or_false] at hp
  rcases hp with rfl
  · exact ⟨d_Table___init__, by simp [ds], rfl, rfl, rfl⟩
theorem hRT : RightT T := ⟨by kernel_rfl, by kernel_rfl, by kernel_rfl, by kernel_rfl⟩
theorem hDraw : T.F "_law_draw" = some ⟨5, 2, drawC⟩ := by kernel_rfl
theorem hDeal : T.F "_law_deal" = some ⟨5, 2, dealC⟩ := by kernel_rfl
theorem hNames : T.F "_law_names" = some ⟨8, 2, namesC⟩ := by kernel_rfl
theorem hPool : T.F "_law_pool" = some ⟨4, 1, poolC⟩ := by kernel_rfl
theorem hRooms : T.F "_law_rooms" = some ⟨8, 4, roomsC⟩ := by kernel_rfl
theorem hSome : T.F "_law_some" = some ⟨6, 3, L_some⟩ := by kernel_rfl
theorem hRows : T.F "_law_rows" = some ⟨7, 3, L_rows⟩ := by kernel_rfl
theorem hTab : TableT T := ⟨by kernel_rfl, by kernel_rfl, by kernel_rfl, by kernel_rfl, by kernel_rfl, by kernel_rfl, by kernel_rfl, by kernel_rfl, by kernel_rfl⟩
theorem hTable : T.F "_law_table" = some ⟨9, 4, c__law_table⟩ := by kernel_rfl
theorem hLaw : T.F "law" = some ⟨10, 1, c_law⟩ := by kernel_rfl
theorem hNew : T.F (newName "Table") = some ⟨1, 1, [.mk "Table" "Table.__init__"]⟩ := by kernel_rfl
theorem hInit : T.F "Table.__init__" = some ⟨2, 2, [.setA (.var 0) "wish" (.var 1)]⟩ := by kernel_rfl
theorem fills_nodup' {cs : Rooms} (h : ∀ c ∈ cs, c.2.Nodup) : (fills cs).Nodup := by
  have : ∀ {cs : Rooms} {acc : List Fil}, acc.Nodup → (∀ c ∈ cs, c.2.Nodup) → (∀ f ∈ acc, ∀ g ∈ acc, f.length = g.length) → (cs.foldl grow acc).Nodup := by
    intro cs
    induction cs with
    | nil => intro acc h _ _; exact h
    | cons c cs ih =>
      intro acc ha hc hl
      refine ih (acc := grow acc c) ?_ (fun d hd => hc d (List.mem_cons_of_mem _ hd)) ?_
      · refine Sk.nodup_fm ha (fun f _ => Sk.nodup_map_on (fun x _ y _ e => ?_) (hc c List.mem_cons_self)) fun f hf g hg ne x hx hy => ?_
        · have := List.append_cancel_left e
          injection this with e _
          injection e
        · obtain ⟨v, _, rfl⟩ := List.mem_map.mp hx
          obtain ⟨w, _, e⟩ := List.mem_map.mp hy
          have := (List.append_inj' e rfl).1
          exact ne this.symm
      · intro f hf g hg
        obtain ⟨a, ha', hf⟩ := List.mem_flatMap.mp hf
        obtain ⟨b, hb', hg⟩ := List.mem_flatMap.mp hg
        obtain ⟨v, _, rfl⟩ := List.mem_map.mp hf
        obtain ⟨w, _, rfl⟩ := List.mem_map.mp hg
        rw [List.length_append, List.length_append, hl a ha' b hb']
        rfl
  exact this (by simp) h (by simp)
theorem vals_inj {cs : List Nm} {ps : Rooms} {f g : Fil} (hcn : cs.Nodup) (hf : Fits (cellsBy ps cs) f) (hg : Fits (cellsBy ps cs) g) (e : valsOf f cs = valsOf g cs) : f = g := by
  have key : ∀ {f : Fil}, akeys f = cs → f = cs.map fun c => (c, Sk.valOf f c) := fun {f} h => by
    have hn : (akeys f).Nodup := by rw [h]; exact hcn
    have : (akeys f).map (fun c => (c, Sk.valOf f c)) = f := by
      unfold akeys
      rw [List.map_map]
      conv => rhs; rw [← List.map_id f]
      refine List.map_congr_left fun x hx => ?_
      show (x.1, (aget f x.1).getD 0) = x
      rw [aget_of hn hx]
      rfl
    rw [h] at this
    exact this.symm
  rw [key (fits_cnt hf hcn), key (fits_cnt hg hcn)]
  refine List.map_congr_left fun c hc => ?_
  have : ∀ {l : List Nm}, l.map (Sk.valOf f) = l.map (Sk.valOf g) → ∀ c ∈ l, Sk.valOf f c = Sk.valOf g c := by
    intro l
    induction l with
    | nil => intro _ c hc; cases hc
    | cons a l ih =>
      intro e c hc
      rw [List.map_cons, List.map_cons] at e
      injection e with e1 e2
      rcases List.mem_cons.mp hc with z | z
      · rw [z]; exact e1
      · exact ih e2 c z
  rw [this e c hc]
theorem table_ok {k : Nat} {S0 S : Sto} {n m : Nat} {ns cs : List Nm} {is : List Int} {ps : Rooms} {Q : Op → Sto → Prop} (hd : Dk S0 S n m) (hcs : CsOk ns cs) (hl : cs.length ≤ 5) (h5 : is.length = 5) (hb : VB is) (hr : RmsOk ns ps) (hfb : nfills (cellsBy ps cs) ≤ 1000)
    (q : ∀ rows S', WOk ns (.table cs rows) → Dk S0 S' n m → Q (.fz (Wish.table cs rows).d) S') : WF T (k + 3) "_law_table" [.ref n, tupS cs, roomsD ps, .lst (is.map .int)] S Q := by
  refine wf_def hTable rfl ?_
  show WSs T (k + 2) (_ :: _ :: _ :: c__law_table.drop 3) [.va (.ref n), .va (tupS cs), .va (roomsD ps), .va (.lst (is.map .int)), .no, .no, .no, .no, .no] S (retQ Q)
  simp_arith!
  refine rows_ok (k := k) hDraw hRows hd (by omega) h5 fun rows S1 hrn hrl hrr d1 => ?_
  have rok : ∀ r ∈ rows, r.length = cs.length ∧ VB r := fun r h => ⟨(hrr r h).1, fun i hi => hb i ((hrr r h).2 i hi)⟩
  simp_arith!
  refine drawK hDraw d1 (by decide) (by decide) fun v S2 v0 v1 d2 => ?_
  have fin : ∀ (rows : List (List Int)) (S3 : Sto) (a6 a7 a8 : Sl), rows.Nodup → (∀ r ∈ rows, r.length = cs.length ∧ VB r) → Dk S0 S3 n m → WSs T (k + 2) (c__law_table.drop 3) [.va (.ref n), .va (tupS cs), .va (roomsD ps), .va (.lst (is.map .int)), .va (.tup (rows.map tupI)), .va (.int v), a6, a7, a8] S3 (retQ Q) := fun rows S3 a6 a7 a8 h1 h2 d3 => by
    have cut : slcD (.tup (rows.map tupI)) none (some 60) = some (.fz (.tup ((rows.take 60).map tupI))) := by
      show some (Op.fz (.tup (Sk.cutD (rows.map tupI) none (some 60)))) = _
      rw [cut_hi (by decide), List.map_take]
      rfl
    show WSs T (k + 2) [_] _ _ _
    simp_arith! [cut]
    exact q (rows.take 60) S3 ⟨hcs, h1.sublist (List.take_sublist ..), by rw [List.length_take]; omega, fun r hr => h2 r (List.mem_of_mem_take hr)⟩ d3
  simp_arith!
  split
  · simp_arith!
    refine fillings_ok (k := k + 1) hRT.Fi rfl (fun _ _ => ⟨rfl, rfl⟩) hcs.nd (by omega) (fun c hc => (hr.ok c (hcs.sub c hc)).imp fun r z => ⟨z.1, z.2.1⟩) (by omega) line100k ?_
    have sq : ∀ xs : List Fil, seqD (.lst (xs.map filD)) = some (xs.map filD) := fun _ => rfl
    have lm := line100k
    have fl : (fills (cellsBy ps cs)).length ≤ 1000 := by rw [fills_len]; exact hfb
    simp_arith! [sq]
    refine wlcN (enc := filD) (xs := fills (cellsBy ps cs)) (fun f => tupI (valsOf f cs)) (by omega) (fun f hf => ?_) ?_
    · have hf := mem_fills.mp hf
      have fo : FilOk cs f := RmsOk.filOk ⟨hr.nd, fun c hc => hr.ok c (hcs.sub c hc)⟩ hf
      simp_arith!
      refine wlcN (enc := strD) (xs := cs) (fun c => .int (Sk.valOf f c)) (by omega) (fun c hc => ?_) ?_
      · simp_arith! [(fo.get hc).1]
      have e : D.tup (cs.map fun c => D.int (Sk.valOf f c)) = tupI (valsOf f cs) := by
        show _ = D.tup ((valsOf f cs).map .int)
        unfold valsOf
        rw [List.map_map]
        rfl
      simp_arith! [e]
    have e : (fills (cellsBy ps cs)).map (fun f => tupI (valsOf f cs)) = ((fills (cellsBy ps cs)).map fun f => valsOf f cs).map tupI := by rw [List.map_map]; rfl
    have hne : fills (cellsBy ps cs) ≠ [] := by
      obtain ⟨f, hf⟩ := fits_some (cs := cellsBy ps cs) fun c hc => by
        obtain ⟨x, hx, rfl⟩ := List.mem_map.mp hc
        obtain ⟨r, er, hne, _⟩ := hr.ok x (hcs.sub x hx)
        show (aget ps x).getD [] ≠ []
        rw [er]
        exact hne
      exact List.ne_nil_of_mem (mem_fills.mpr hf)
    have nd : ((fills (cellsBy ps cs)).map fun f => valsOf f cs).Nodup := Sk.nodup_map_on (fun x hx y hy z => vals_inj hcs.nd (mem_fills.mp hx) (mem_fills.mp hy) z) (fills_nodup' fun c hc => by
      obtain ⟨x, hx, rfl⟩ := List.mem_map.mp hc
      obtain ⟨r, er, _, _, hrn, _⟩ := hr.ok x (hcs.sub x hx)
      show ((aget ps x).getD []).Nodup
      rw [er]
      exact hrn)
    have ok2 : ∀ r ∈ (fills (cellsBy ps cs)).map (fun f => valsOf f cs), r.length = cs.length ∧ VB r := fun r hm => by
      obtain ⟨f, hf, rfl⟩ := List.mem_map.mp hm
      refine ⟨List.length_map .., fun i hi => ?_⟩
      obtain ⟨c, hc, rfl⟩ := List.mem_map.mp hi
      exact ((RmsOk.filOk ⟨hr.nd, fun c hc => hr.ok c (hcs.sub c hc)⟩ (mem_fills.mp hf)).get hc).2
    have al : ((fills (cellsBy ps cs)).map fun f => valsOf f cs).length = (fills (cellsBy ps cs)).length := List.length_map ..
    have pos := List.length_pos_iff.mpr hne
    rw [e]
    generalize ((fills (cellsBy ps cs)).map fun f => valsOf f cs) = all at nd ok2 al ⊢
    simp_arith!
    refine drawK hDraw d2 (by omega) (by omega) fun x S3 x0 x1 d3 => ?_
    have c1 : slcD (.tup (all.map tupI)) none (some x) = some (.fz (.tup ((all.take x.toNat).map tupI))) := by
      show some (Op.fz (.tup (Sk.cutD (all.map tupI) none (some x)))) = _
      rw [cut_hi x0, List.map_take]
    have c2 : slcD (.tup (all.map tupI)) (some (x + 1)) none = some (.fz (.tup ((all.drop (x + 1).toNat).map tupI))) := by
      show some (Op.fz (.tup (Sk.cutD (all.map tupI) (some (x + 1)) none))) = _
      rw [cut_lo (by omega), List.map_drop]
    have cat : (all.take x.toNat).map tupI ++ (all.drop (x + 1).toNat).map tupI = (all.take x.toNat ++ all.drop (x + 1).toNat).map tupI := by rw [List.map_append]
    simp_arith! [c1, c2, cat]
    have sub : (all.take x.toNat ++ all.drop (x + 1).toNat).Sublist all := by
      conv => rhs; rw [← List.take_append_drop x.toNat all]
      refine (List.Sublist.refl _).append ?_
      rw [show (x + 1).toNat = x.toNat + 1 by omega, ← List.drop_drop]
      exact List.drop_sublist 1 _
    refine ⟨by rw [List.length_take, List.length_drop]; omega, by show 2 ≤ _; omega, drawK hDraw d3 (by decide) (by decide) fun y S4 y0 y1 d4 => ?_⟩
    simp_arith!
    refine o_some y0 y1 fun d hd => ?_
    simp only [List.mem_cons, List.not_mem_nil, or_false] at hd
    rcases hd with rfl | rfl
    · simp_arith!
      exact fin all S4 _ _ _ nd ok2 d4
    · simp_arith!
      exact fin _ S4 _ _ _ (nd.sublist sub) (fun r h => ok2 r (sub.subset h)) d4
  · simp_arith!
    exact fin rows S2 _ _ _ hrn rok d2
theorem law_true : Law T 30 := by
  refine law_of fun script hl => ?_
  refine wf_def hLaw rfl ?_
  show WSs T 29 (_ :: _ :: _ :: _ :: c_law.drop 4) [.va (.lst (script.map .int)), .no, .no, .no, .no, .no, .no, .no, .no, .no] [] _
  simp_arith!
  refine dealS (v := 0) hDeal hl (by decide) fun d S hd hS => ?_
  simp_arith! [hS]
  refine drawK hDraw (.mk hd) (by decide) (by decide) fun v S1 v0 v1 d1 => ?_
  simp_arith!
  refine names_ok (k := 27) hDraw hNames d1.1 (by omega) (by omega) fun ns S2 hlen hw d2 e2 => ?_
  have d2 := d1.on d2 e2
  simp_arith!
  refine pool_ok (k := 27) hDraw hPool d2.1 fun is S3 h5 hp hb d3 e3 => ?_
  have d3 := d2.on d3 e3
  simp_arith!
  refine rooms_ok (k := 27) (most := 3) hDraw hRooms d3.1 hw.nd (by omega) h5 (by decide) fun ps S4 hk hps d4 e4 => ?_
  have d4 := d3.on d4 e4
  rw [rooms_eq]
  have isn : is.Nodup := hp.imp fun h => Int.ne_of_lt h
  have hk : akeys ps = ns := hk
  have psn : (akeys ps).Nodup := by rw [hk]; exact hw.nd
  have hr : RmsOk ns ps := ⟨psn, fun n hn => by
    obtain ⟨r, er⟩ := aget_some (ps := ps) (k := n) (by rw [hk]; exact hn)
    have z := hps _ (aget_mem er)
    have z2 : r.length ≤ 3 := z.le
    exact ⟨r, er, z.ne, by omega, isn.sublist z.sub, fun i hi => hb i (z.sub.subset hi)⟩⟩
  have r3 : ∀ c ∈ cellsBy ps ns, c.2.length ≤ 3 := fun c hc => by
    obtain ⟨n, hn, rfl⟩ := List.mem_map.mp hc
    obtain ⟨r, er⟩ := aget_some (ps := ps) (k := n) (by rw [hk]; exact hn)
    show ((aget ps n).getD []).length ≤ 3
    rw [er]
    exact (hps _ (aget_mem er)).le
  have fb : ∀ ps' : Rooms, (∀ c ∈ cellsBy ps' ns, c.2.length ≤ 3) → nfills (cellsBy ps' ns) ≤ 100000 := fun ps' h => Nat.le_trans (nfills_le (b := 3) (n := 5) h (by unfold cellsBy; rw [List.length_map]; omega) (by decide)) (by decide)
  clear d1 d2 d3 e2 e3 e4
  simp_arith!
  show WSs T 29 (_ :: _ :: _ :: c_law.drop 7) _ _ _
  simp_arith!
  refine someG (k := 27) (enc := strD) (xs := ns) hDraw hSome d4 (.inl rfl) (by omega) (by decide) (by omega) fun cs rest S5 pc le d5 => ?_
  have cl := pc.length_eq
  rw [List.length_append] at cl
  have cn : cs.Nodup := by
    have := pc.nodup_iff.mpr hw.nd
    rw [List.nodup_append] at this
    exact this.1
  have csub : ∀ c ∈ cs, c ∈ ns := fun c h => pc.mem_iff.mp (List.mem_append_left _ h)
  have hcs : CsOk ns cs := ⟨fun z => by rw [z] at le; simp at le, cn, by omega, csub⟩
  simp_arith!
  refine table_ok (k := 26) d5 hcs (by omega) h5 (fun i hi => hb i hi) hr ?_ fun rows S6 hwok d6 => ?_
  · refine Nat.le_trans (nfills_le (b := 3) (n := 4) (fun c hc => ?_) (by unfold cellsBy; rw [List.length_map]; omega) (by decide)) (by decide)
    obtain ⟨n, hn, rfl⟩ := List.mem_map.mp hc
    exact r3 _ (List.mem_map.mpr ⟨n, csub n hn, rfl⟩)
  simp_arith!
  refine newWish (k := 27) hNew hInit hTab.A ?_
  have hdp : (Wish.table cs rows).deep ≤ 1 := Nat.zero_le _
  have lt := d6.1.lt
  have ht : (S6 ++ [O.ins "Table" [("wish", (Wish.table cs rows).d)]])[S6.length]? = some (.ins "Table" [("wish", (Wish.table cs rows).d)]) := by
    rw [List.getElem?_append_right (Nat.le_refl _), Nat.sub_self]
    rfl
  have d9 := d6.1.app (O.ins "Table" [("wish", (Wish.table cs rows).d)])
  generalize (S6 ++ [O.ins "Table" [("wish", (Wish.table cs rows).d)]]) = S9 at ht d9 ⊢
  generalize S6.length = t at ht lt ⊢
  have l0 : List.lookup ("kept" : Str) [(("wish" : Str), (Wish.table cs rows).d)] = none := rfl
  have l1 : List.lookup ("may_keep" : Str) [(("wish" : Str), (Wish.table cs rows).d)] = none := rfl
  have l2 : List.lookup ("may_break" : Str) [(("wish" : Str), (Wish.table cs rows).d)] = none := rfl
  have an : ∀ (S' : Sto) (ps' : Rooms), S'[t]? = some (.ins "Table" [("wish", (Wish.table cs rows).d)]) → RmsOk ns ps' → Answers T 28 "Table" S' t (.table cs rows) ns ps' := fun S' ps' h1 h2 => table_answers (k := 26) hTab h1 rfl rfl hwok h2
  simp_arith!
  show WSs T 29 (_ :: _ :: c_law.drop 9) _ _ _
  simp_arith! [List.length_nil, List.all_nil]
  refine wforM (enc := strD) (xs := ns) [8, 9] [.ow (roomsD []), .no] (fun r vs S' => ∃ (ls : Rooms) (dn : List Nm) (a : Sl), vs = [.ow (roomsD ls), a] ∧ akeys ls = dn ∧ dn ++ r = ns ∧ (∀ n ∈ dn, ∃ x, aget ls n = some x ∧ x ≠ [] ∧ x.length ≤ 3 ∧ x.Nodup ∧ VB x) ∧ Dk S9 S' 1 0) rfl ⟨[], [], _, rfl, rfl, rfl, by simp, .mk d9⟩ ?_ ?_
  · rintro n r vs S10 ⟨ls, dn, a, rfl, e1, e2, hls, d10⟩
    obtain ⟨rm, er, hne, hrl, hrn, hrb⟩ := hr.ok n (by rw [← e2]; simp)
    have rm3 : rm.length ≤ 3 := by
      have := r3 (n, rm) (List.mem_map.mpr ⟨n, by rw [← e2]; simp, by rw [er]; rfl⟩)
      exact this
    have new : n ∉ akeys ls := by
      rw [e1]
      have := hw.nd
      rw [← e2, List.nodup_append] at this
      exact fun z => this.2.2 n z n List.mem_cons_self rfl
    have lsn : (akeys ls).Nodup := by
      rw [e1]
      have := hw.nd
      rw [← e2, List.nodup_append] at this
      exact this.1
    have lsl : ls.length ≤ 20 := by
      have h1 := congrArg List.length e1
      have h2 := congrArg List.length e2
      unfold akeys at h1
      rw [List.length_map] at h1
      rw [List.length_append] at h2
      omega
    have lm := line1m
    have rpos := List.length_pos_iff.mpr hne
    simp_arith! [er]
    refine someG (k := 27) (enc := D.int) (xs := rm) hDraw hSome d10 (.inr rfl) (by omega) (by decide) (by omega) fun us vs' S11 pu le d11 => ?_
    have pul := pu.length_eq
    rw [List.length_append] at pul
    have un : us.Nodup := by
      have := pu.nodup_iff.mpr hrn
      rw [List.nodup_append] at this
      exact this.1
    have ip := isort_perm us
    have tt : D.tup ((isort us).map .int) = tupI (isort us) := rfl
    have so : bfD .sorted (.tup (us.map D.int)) = some (.fr (.lst ((isort us).map .int))) := by
      show (intsD (us.map D.int)).map _ = _
      rw [ints_of]
      rfl
    have pm : ∀ x : List Int, putC (tupI x) (roomsD ls) (strD n) = fun Q => ls.length < sizeLine ∧ Q (roomsD (aput ls n x)) := fun x => funext fun Q => propext (p_mapS lsn)
    simp_arith! [so, tt, pm, aput_new new]
    refine ⟨[_, _], rfl, ls ++ [(n, isort us)], dn ++ [n], _, rfl, by unfold akeys at e1 ⊢; rw [List.map_append, e1]; rfl, by rw [List.append_assoc]; exact e2, fun m hm => ?_, d11⟩
    rw [← aput_new new, aget_aput]
    by_cases e : n = m
    · rw [if_pos e]
      refine ⟨_, rfl, fun z => ?_, by rw [ip.length_eq]; omega, ip.nodup_iff.mpr un, fun i hi => hrb i (pu.mem_iff.mp (List.mem_append_left _ (ip.mem_iff.mp hi)))⟩
      have := ip.length_eq
      rw [z, List.length_nil] at this
      omega
    · rw [if_neg e]
      rcases List.mem_append.mp hm with z | z
      · exact hls m z
      · exact (e (List.mem_singleton.mp z).symm).elim
  · rintro vs S10 ⟨ls, dn, a, rfl, e1, e2, hls, d10⟩
    rw [List.append_nil] at e2
    subst e2
    have ht10 := d10.get ht (by omega) (by omega)
    have hrL : RmsOk dn ls := ⟨by rw [e1]; exact hw.nd, fun n hn => by
      obtain ⟨x, h1, h2, h3, h4, h5⟩ := hls n hn
      exact ⟨x, h1, h2, by omega, h4, h5⟩⟩
    have l3 : ∀ c ∈ cellsBy ls dn, c.2.length ≤ 3 := fun c hc => by
      obtain ⟨n, hn, rfl⟩ := List.mem_map.mp hc
      obtain ⟨x, h1, h2, h3, _⟩ := hls n hn
      show ((aget ls n).getD []).length ≤ 3
      rw [h1]
      exact h3
    show WSs T 29 (_ :: _ :: []) _ _ _
    simp_arith!
    refine right_ok (k := 26) hRT ht10 l0 l1 l2 hw.nd (by omega) hr (fb ps r3) hwok hdp (an S10 ps ht10 hr) fun S11 x11 => ?_
    have ht11 := x11.get ht10
    simp_arith!
    refine right_ok (k := 26) hRT ht11 l0 l1 l2 hw.nd (by omega) hrL (fb ls l3) hwok hdp (an S11 ls ht11 hrL) fun S12 x12 => ?_
    have ht12 := x12.get ht11
    simp_arith!
    refine right_ok (k := 26) hRT ht12 l0 l1 l2 hw.nd (by omega) hr (fb ps r3) hwok hdp (an S12 ps ht12 hr) fun S13 x13 => ?_
    simp_arith!

theorem facts {P : Program} {w : World} {K : PySem.W.Frag} {h : Heap} {mg : Str → Option Value} {f : Addr} (L : Law T 30) (X : K.In h) (G : h.Ns mainGlobals mg) (hfa : mg ("law" : Str) = some (.ref f)) (c : SaysC fa fn cs K) :
    ∃ fd : FuncData, (∀ (s : Shared) (v : Value), BindsTo s fd ⟨[v], []⟩ [("_law_script", v)]) ∧ ∀ base : Heap, K.In base → base.Ns mainGlobals mg → FnOk P w K mg base C8.CX0 30 f fd ["_law_script"] (spF T 30 "law" K mg) := by
  have H := hd_of X G c oks uqs mks
  obtain ⟨A, fd, m, F⟩ := H.fd d_law (by simp [ds])
  have e : mg ("law" : Str) = some (.ref A) := m
  rw [hfa] at e
  cases e
  refine ⟨fd, fun s v => FunD.bindsA (ps := ["_law_script"]) F b_law s [v] rfl, fun base _ _ => ?_⟩
  exact fn_ok1 H (fns_ok H 29) (d := d_law) (by simp [ds]) F
end Lw
open PySem PySem.W PySem.Calls PyProof.Rows
theorem PySem.Challenge.cw_seekhall_k16_tables_holds : PySem.Challenge.rw_seekhall_k16_tables.Holds := by
  w_on; o_law
  refine HandSHeadRun.head_any (r := OpenLaw.row PySem.Challenge.rw_seekhall_k16_tables) (q := view (OpenLaw.row PySem.Challenge.rw_seekhall_k16_tables).prog [17]) (H := Lw.hk) (ob := Lw.obh) (M := 20000) (loose := Lw.loose) (d := HandSHeadRun.topDef (OpenLaw.row PySem.Challenge.rw_seekhall_k16_tables).prog 17) (kwd := []) Lw.obh_eq
    (by kernel_rfl) (fun s => by kernel_rfl) Lw.run (by kernel_rfl) (by kernel_rfl) (by kernel_rfl) (by rfl) (by first | assumption | decide +kernel) (by decide +kernel) ⟨rfl, rfl, rfl, rfl, rfl, by decide +kernel⟩ ?hw ?hc
  case hw => w_witness2
  case hc =>
    refine L2.walk_ofE (l := PySem.Challenge.rw_seekhall_k16_tables) (n := 63) (k := 30) (x := "_law_script") (CX := C8.CX0) rfl (by decide) (by kernel_rfl) ⟨rfl, by decide, by decide⟩ ?F (fun _ _ _ _ z => z)
    intro w mg fa h Y G hmg0
    obtain ⟨K, KX, c⟩ := Y
    have hmg : mg ("law" : PySem.Str) = some (.ref fa) := by
      have e : (HandSHeadRun.topDef (OpenLaw.row PySem.Challenge.rw_seekhall_k16_tables).prog 17).name = ("law" : PySem.Str) := by kernel_rfl
      rw [← e]
      exact hmg0
    obtain ⟨fd, hb, hF⟩ := Lw.facts (P := (PySem.Challenge.rw_seekhall_k16_tables).prog) (w := w) Lw.law_true KX G hmg c
    exact ⟨K, fd, Sk.spF Lw.T 30 "law" K mg, KX, hb, fun H a ns hl _ hS => Sk.law_sp Lw.law_true H a ns hl hS, hF⟩
