import PyProof.Rows.All
import Wide.All
import OpenK.AllK
import Wide.FinOn
import HandS.ForMost
import HandS.More
import HandS.IsInst
import HandS.Strs
import HandS.Zip
import HandS.TupAny
import HandS.OwnEq
import HandS.Codes
import HandS.RaiseMore
import HandS.DictComp
import HandS.SortInts
import PyProof.StrOps2
import PyProof.Rows.Digits
import HandS.Defaults
import HandS.Style
import HandS.HeadHook1
import HandS.HeadHook2
import HandS.Walk
import KE.KStateDown
import Lean
import HandS.Head0
import HandS.Head1
import HandS.Head2
import HandS.HeadEnd
import PySem.Challenge.RW_evenfailover_k87_whole_only_the_live_set
set_option Elab.async false
set_option linter.all false
set_option maxRecDepth 100000
set_option maxHeartbeats 4000000
/-! Rules of this claim's own, over HandS. -/
namespace EF
open PySem PySem.Spec PyProof.Rows L2

theorem opImp {X : Cx} {f : Value → Value → Sem Value} {r r' : R2} (h : OpR X f r) (hi : ∀ x y H Q, r' x y H Q → r x y H Q) : OpR X f r' :=
  fun pins s σ H x y v u Q I rx ry q => h pins s σ H x y v u Q I rx ry (hi x y H Q q)
theorem callImp {X : Cx} {f : Value} {r r' : List V → Hp → VK → Prop} (h : CallR X f r) (hi : ∀ xs H Q, r' xs H Q → r xs H Q) : CallR X f r' :=
  fun pins s σ H xs us Q I r1 q => h pins s σ H xs us Q I r1 (hi xs H Q q)

/-! ### in, not in: an int in a list or tuple of ints -/
abbrev SqA (K : PySem.W.Frag) (H : Hp) (a : Addr) (xs : List V) : Prop := SqL K H a xs ∨ SqT K H a xs
theorem inV_ints (i : Int) : ∀ ns : List Int, inV (.int i) (ns.map V.int) = decide (i ∈ ns)
  | [] => by simp [inV]
  | n :: ns => by
    have ih := inV_ints i ns
    unfold inV at ih ⊢
    rw [List.map_cons, List.any_cons, ih]
    show ((n == i) || decide (i ∈ ns)) = decide (i ∈ n :: ns)
    by_cases h : n = i
    · subst h; simp
    · have h2 : (n == i) = false := beq_eq_false_iff_ne.mpr h
      rw [h2, Bool.false_or]
      have h3 : ¬ i = n := fun e => h e.symm
      simp [h3]
theorem flat_ints (ns : List Int) : (ns.map V.int).all flatV = true := by
  rw [List.all_map]
  exact List.all_eq_true.mpr fun _ _ => rfl
def rInI (K : PySem.W.Frag) : R2 := fun x y H Q => ∃ (i : Int) (a : Addr) (ns : List Int), x = .int i ∧ y = .ref a ∧ SqA K H a (ns.map V.int) ∧ Q (.bl (decide (i ∈ ns))) H
def rNiI (K : PySem.W.Frag) : R2 := fun x y H Q => ∃ (i : Int) (a : Addr) (ns : List Int), x = .int i ∧ y = .ref a ∧ SqA K H a (ns.map V.int) ∧ Q (.bl (!decide (i ∈ ns))) H
theorem op_inI {X : Cx} : OpR X (compareOp .In) (rInI X.K) := opImp op_in_seq fun x y H Q h => by
  obtain ⟨i, a, ns, rfl, rfl, hs, q⟩ := h
  refine ⟨a, _, rfl, hs, rfl, flat_ints ns, ?_⟩
  rw [inV_ints]
  exact q
theorem op_niI {X : Cx} : OpR X (compareOp .NotIn) (rNiI X.K) := opImp op_notIn_seq fun x y H Q h => by
  obtain ⟨i, a, ns, rfl, rfl, hs, q⟩ := h
  refine ⟨a, _, rfl, hs, rfl, flat_ints ns, ?_⟩
  rw [inV_ints]
  exact q

/-! ### isinstance of an int, a text -/
def rIsI : List V → Hp → VK → Prop := fun xs H Q => ∃ i, xs = [.int i, .ty "int"] ∧ Q (.bl true) H
def rIsB : List V → Hp → VK → Prop := fun xs H Q => ∃ i, xs = [.int i, .ty "bool"] ∧ Q (.bl false) H
def rIsS : List V → Hp → VK → Prop := fun xs H Q => ∃ z, xs = [.str z, .ty "str"] ∧ Q (.bl true) H
theorem call_isI {X : Cx} : CallR X (.builtin "isinstance") rIsI := callImp call_isi fun xs H Q h => by
  obtain ⟨i, rfl, q⟩ := h
  exact ⟨_, _, _, _, true, rfl, .ty "int", .base (.int i), kit_ty (by decide +kernel), q⟩
theorem call_isB {X : Cx} : CallR X (.builtin "isinstance") rIsB := callImp call_isi fun xs H Q h => by
  obtain ⟨i, rfl, q⟩ := h
  exact ⟨_, _, _, _, false, rfl, .ty "bool", .base (.int i), kit_ty (by decide +kernel), q⟩
theorem call_isS {X : Cx} : CallR X (.builtin "isinstance") rIsS := callImp call_isi fun xs H Q h => by
  obtain ⟨z, rfl, q⟩ := h
  exact ⟨_, _, _, _, true, rfl, .ty "str", .base (.str z), kit_ty (by decide +kernel), q⟩

/-! ### len of an own object, by its __len__ -/
def rLenO (C : Addr) (sp : Sp) : List V → Hp → VK → Prop := fun xs H Q => ∃ a dx fs, xs = [.ref a] ∧ H a = some (.ins C dx fs) ∧
  sp [.ref a] H (fun v H' => ∃ n : Nat, v = .int n ∧ n ≤ 1000 ∧ Q (.int n) H') fun _ _ _ => False
theorem call_lenO {X : Cx} {k : Nat} {C f : Addr} {fd : FuncData} {ps : List Str} {sp : Sp} (F : FnOk X.prog X.w X.K X.mg X.base C8.CX0 k f fd ps sp) (hr : Room (k + 1) X.A) (hb : Binds X.K fd ps [])
    (hs : PySem.W.findIn X.K (.ref C) "__len__" = some (some (.ref f))) (hf : PySem.W.isFn X.K (.ref f) = true) : CallR X (.builtin "len") (rLenO C sp) := by
  intro pins s σ H xs us Q I r h
  obtain ⟨a, dx, fs, rfl, ha, hsp⟩ := h
  obtain ⟨u, rfl, ru⟩ := vals1 r
  cases ru
  obtain ⟨mA, J, _⟩ := ins_get I.hok ha
  obtain ⟨od, J, _⟩ := J.look
  obtain ⟨m, hF⟩ := I.fr
  refine PySem.W.len_K hF I.ok.mod.kin J hs hf ?_
  have hl := F.len _ _ _ _ hsp
  have r2 : Vals [V.ref a] [Value.ref a] := .cons rfl .nil
  have hb2 : BindsTo s fd ⟨[.ref a], []⟩ (ps.zip [.ref a]) := by
    have q := hb s [.ref a] I.kIn (by simpa using hl)
    simpa using q
  refine wpAny_call (codeAny_mono (F.run X.A.in1 X.stack s H ⟨[.ref a], []⟩ [.ref a] [.ref a] _ _ hr.in1 I.env0.in1 hb2 r2 hsp) fun r s' hq => ?_)
  cases r with
  | error e => exact False.elim hq
  | ok fl =>
    cases fl with
    | ret w =>
      obtain ⟨z, H', I', rz, n, rfl, hn, q⟩ := I.after hq
      obtain ⟨t, rfl⟩ := rz
      refine ⟨⟨by omega, by omega⟩, ?_⟩
      exact ⟨.int (n : Int), H', I'.tok _, ⟨_, rfl⟩, q⟩
    | next => exact False.elim hq
    | brk => exact False.elim hq
    | cont => exact False.elim hq
end EF
namespace EF
open PySem PySem.Spec PyProof.Rows L2

/-! ### a text times an int -/
def tenZ (k : Nat) : Str := ⟨(List.replicate k (#[48] : Array Nat)).foldl (· ++ ·) #[]⟩
def rMulS : R2 := fun x y H Q => x = .str "0" ∧ y = .int 900 ∧ Q (.str (tenZ 900)) H
theorem op_mulS {X : Cx} : OpR X (binaryOp .Mult) rMulS := by
  intro pins s σ H x y v u Q I rx ry h
  obtain ⟨rfl, rfl, q⟩ := h
  obtain ⟨t, rfl⟩ := rx
  obtain ⟨t2, rfl⟩ := ry
  refine PySem.P.mul_str (by decide) (fun _ _ => by decide +kernel) (fun _ _ => by decide +kernel) ?_
  rw [if_neg (by decide), if_neg (by decide +kernel)]
  exact ⟨by decide +kernel, ⟨.str (tenZ 900), H, I.tok _, ⟨_, rfl⟩, q⟩⟩

/-! ### int(text), a text of 901 digits -/
theorem ns_none {K : PySem.W.Frag} {h : Heap} {a : Addr} {m : Str → Option Value} {n : Str} (X : K.In h) (G : h.Ns a m) (e : PySem.W.nsIn K a n = some none) : m n = none := by
  obtain ⟨o, es, ep, ho, hd, h3, hf⟩ := G
  unfold PySem.W.nsIn at e
  split at e
  · rename_i c d es' n' sl q
    have z := X _ _ q
    rw [ho] at z
    cases z; cases hd
    split at e
    · cases e
    · rename_i he
      rw [← hf]
      unfold nsFind findBy; rw [← Array.find?_toList, he]; rfl
  · cases e
theorem noDigits {X : Cx} {pins : List (Addr × Obj)} {σ : L2.St} {H : Hp} {s : Shared} (I : Inv X pins σ H s) (e : PySem.W.nsIn X.K cStatics "sys.int_max_str_digits" = some none) : s.heap.NoDigits := by
  obtain ⟨mc, h1, _⟩ := I.nolimit
  exact ⟨mc, h1, ns_none I.kIn h1 e⟩
theorem maxDigits_ {M : Model} {A : Around} {E : Value → Shared → Prop} {s : Shared} {Q : Nat → Shared → Prop} (hn : s.heap.NoDigits) (h : Q 4300 s) : wpAny M A Builtin.intMaxStrDigits Q E s := by
  obtain ⟨mc, hns, hnone⟩ := hn
  unfold Builtin.intMaxStrDigits
  refine wpAny_bind (wpAny_nsGet hns ?_)
  rw [hnone]
  exact wpAny_pure h
theorem wp_longText {M : Model} {A : Around} {E : Value → Shared → Prop} {s : Shared} {Q : Value → Shared → Prop} {v : Value} {text : List Nat} {n : Int} (hn : s.heap.NoDigits)
    (hs : decide ((text.takeWhile (· != 0)).length ≤ 640) = false) (hr : (int_private% "readNumeral") 4300 10 (text.takeWhile (· != 0)) = (int_private% "Numeral.value") n)
    (ha : ((text.takeWhile (· != 0)).length == text.length) = true) (h : Q (.int n s.toks) { s with toks := s.toks + 1 }) :
    wpAny M A ((int_private% "intFromText") v text 10) Q E s := by
  obtain ⟨hp, g, d, tk, os⟩ := s
  repeat (any_goals (first
    | assumption
    | (with_reducible refine wpAny_ite_false hs ?_)
    | (with_reducible refine maxDigits_ hn ?_)
    | (with_reducible refine wpAny_ite_true (decide_eq_true ha) ?_)
    | wp_step))
  all_goals (try rw [hr])
  all_goals (try dsimp only)
  repeat (any_goals (first
    | assumption
    | (with_reducible refine wpAny_ite_true (decide_eq_true ha) ?_)
    | wp_step))
theorem meets_long {x : Str} {u : Tok} {n : Int} (h6 : decide ((numSeenOf x).length ≤ 640) = false) (hl : x.length ≤ sizeLine) (hi : PySem.intText? x = some n) : Meets (Builtin.«int.__new__» ⟨[.type "int", .str x u], []⟩)
    (fun _ R s => s.heap.NoDigits ∧ R (.ok (.ret (.int n s.toks))) { s with toks := s.toks + 1 }) := by
  intro prog w A R s h
  obtain ⟨hn, h⟩ := h
  obtain ⟨hp, g, d, tk, os⟩ := s
  have f1 := F.conv_sub_int
  have f2 := F.madeHere_int
  have f3 := PySem.W.KIN.str_int
  have f4 := PySem.W.KIN.str_idx
  have f5 := PySem.W.KIN.str_trunc
  have f6 : typeOf (.str x u) = pure (.type "str") := rfl
  have hr : (int_private% "readNumeral") 4300 10 (numSeenOf x) = (int_private% "Numeral.value") n ∧ ((numSeenOf x).length == (numTextOf x).length) = true := by
    rcases read4300 x hl with ⟨m, h1, h2, h3⟩ | ⟨h1, _⟩
    · rw [hi] at h1
      injection h1 with h1
      subst h1
      exact ⟨h3, h2⟩
    · rw [hi] at h1; cases h1
  have hk := PySem.W.KIN.Hid.mk (And.intro h6 hr)
  clear hr h6 hl hi
  repeat (any_goals (first
    | assumption
    | ((with_reducible show wpAny _ _ ((int_private% "intFromText") _ _ _) _ _ _); refine wp_longText hn hk.out.1 hk.out.2.1 hk.out.2.2 ?_)
    | wp_step))
theorem tens_fold : ∀ (k : Nat) (a : Array Nat), ((List.replicate k (#[48] : Array Nat)).foldl (· ++ ·) a).toList = a.toList ++ List.replicate k 48
  | 0, a => by simp
  | k + 1, a => by
    rw [List.replicate_succ, List.foldl_cons, tens_fold k (a ++ #[48]), List.replicate_succ]
    simp
def bigZ : Str := "1" ++ tenZ 900
theorem big_list : bigZ.cps.toList = 49 :: List.replicate 900 48 := by
  show ((Str.ofString "1").cps ++ (tenZ 900).cps).toList = 49 :: List.replicate 900 48
  rw [Array.toList_append]
  show (Str.ofString "1").cps.toList ++ ((List.replicate 900 (#[48] : Array Nat)).foldl (· ++ ·) #[]).toList = _
  rw [tens_fold]
  rfl
theorem big_len : bigZ.length = 901 := by
  have e : bigZ.cps.toList.length = bigZ.length := Array.length_toList
  rw [← e, big_list, List.length_cons, List.length_replicate]
theorem big_digits : NumText.AllDigits bigZ.cps.toList := by
  intro c hc
  rw [big_list] at hc
  rcases List.mem_cons.mp hc with h | h
  · omega
  · have e := (List.mem_replicate.mp h).2
    omega
def bigN : Int := ((NumText.digitsVal bigZ.cps.toList : Nat) : Int)
theorem big_pos : 0 < bigN := by
  unfold bigN
  have h : 0 < NumText.digitsVal bigZ.cps.toList := by
    rw [big_list]
    exact NumText.digitsVal_pos (by decide)
  omega
theorem big_int : PySem.intText? bigZ = some bigN := intText_digits big_digits (by rw [big_list]; exact List.cons_ne_nil _ _) (by rw [big_len]; decide)
theorem big_seen : decide ((numSeenOf bigZ).length ≤ 640) = false := by
  rw [(numText_signs fun c hc => Or.inr (big_digits c hc)).2, big_list, List.length_cons, List.length_replicate]
  decide
def rIntBig : List V → Hp → VK → Prop := fun xs H Q => xs = [.str bigZ] ∧ Q (.int bigN) H
theorem call_intBig {X : Cx} (e : PySem.W.nsIn X.K cStatics "sys.int_max_str_digits" = some none) : CallR X (.type "int") rIntBig := by
  intro pins s σ H xs us Q I rs h
  obtain ⟨rfl, q⟩ := h
  obtain ⟨u, rfl, t, rfl⟩ := vals1 rs
  exact call_int_1 (meets_long big_seen (by rw [big_len]; decide) big_int) ⟨noDigits I e, ⟨rfl, ⟨.int bigN, H, I.tok _, ⟨_, rfl⟩, q⟩⟩⟩

/-! ### sorted of a tuple of ints (fewer than 64) -/
theorem collect_tupI {prog : Program} {w : World} {A : Around} {E : Value → Shared → Prop} {s : Shared} {l : Addr} {vs : List Value} {Q : List Value → Shared → Prop} (hl : IsTup s.heap l vs.toArray)
    (h : Q vs { s with heap := (s.heap.push (seqObj "list" #[] 0)).update s.heap.objs.size (Obj.mapSeq (· ++ vs.toArray)) }) (hsz : vs.length ≤ 1000) :
    wpAny (model prog w) A (collect (.ref l)) Q E s := by
  have hsz2 : vs.length ≤ sizeLine := Nat.le_trans hsz (by decide)
  obtain ⟨o, ho, hc, n, hd⟩ := id hl
  have ho' : (s.heap.push (seqObj "list" #[] 0)).get? l = some o := Heap.get?_push_of_some _ ho
  unfold collect; refine wpAny_bind (wpAny_runValue (codeAny_builtin entry_proto_collect' ?_))
  show wpAny _ _ (do again (.builtin "list.__iadd__" ⟨[← newList [], .ref l], []⟩)) _ _ s; refine wpAny_bind (wpAny_newList (wpAny_pure ⟨Code.quiet_builtin _ (by decide +kernel), codeAny_builtin entry_list_iadd' ?_⟩))
  show wpAny _ _ (Builtin.List.listExtendWith (.ref s.heap.objs.size) (.ref l) (.ref s.heap.objs.size)) _ _ { s with heap := s.heap.push (seqObj "list" #[] 0) }; unfold Builtin.List.listExtendWith
  refine wpAny_bind (wpAny_typeOf (T := "tuple") ⟨o, ho', hc⟩ ?_)
  have ht2 : (Value.type "tuple" == Value.type "tuple") = true := by rfl
  rw [if_pos (by rw [ht2]; simp)]; refine wpAny_bind (listItems_at ho' hd ?_); refine wpAny_bind (listItems_at (xs := #[]) (n := 0) (Heap.get?_push_size _ rfl) rfl ?_); rw [if_neg (by simp)]
  refine wpAny_bind (listUpdate_at (xs := #[]) (n := 0) (Heap.get?_push_size _ rfl) rfl ?_ (Nat.zero_le _) (by show (#[] ++ vs.toArray).size ≤ sizeLine + 1; simp only [Array.size_append, List.size_toArray, List.length_nil]; omega)); refine wpAny_pure ?_
  show wpAny (model prog w) A (do
      let o ← load s.heap.objs.size
      match o.data with
      | .seq xs _ => pure xs.toList
      | _ => unsupported "internal:collect") Q E { s with heap := (s.heap.push (seqObj "list" #[] 0)).update s.heap.objs.size (Obj.mapSeq (· ++ vs.toArray)) }; refine wpAny_bind (wpAny_load (get?_update_seq (Heap.get?_push_size _ rfl) _) ?_)
  show wpAny _ _ (pure ((#[] : Array Value) ++ vs.toArray).toList) Q E _; rw [show ((#[] : Array Value) ++ vs.toArray).toList = vs by simp]; exact wpAny_pure h
theorem sorted_tupI {prog : Program} {w : World} {A : Around} {E : Value → Shared → Prop} {s : Shared} {l : Addr} {vs : List Value} {ns : List Int} {Q : Value → Shared → Prop} (hl : IsTup s.heap l vs.toArray) (hI : IntsAre vs ns) (h64 : vs.length < 64)
    (h : ∀ (out : Array Value) (ns' : List Int), IntsAre out.toList ns' → ns'.Perm ns → ns'.Pairwise (· ≤ ·) → Q (.ref (s.heap.objs.size + 1)) { s with heap := sortedAll s.heap vs out }) :
    wpAny (model prog w) A (call (.builtin "sorted") [.ref l]) Q E s := by
  refine Calls.call_function_entry kind_sorted plain_sorted entry_sorted (args_sorted1 _) ?_; unfold Builtin.«sorted»
  refine wpAny_bind (m := checkCount "sorted" 1 1 _) (wpAny_pure ?_); refine wpAny_bind (collect_tupI hl ?_ (by omega)); refine wpAny_bind (wpAny_newList ?_)
  have hsz3 : ((s.heap.push (seqObj "list" #[] 0)).update s.heap.objs.size (Obj.mapSeq (· ++ vs.toArray))).objs.size = s.heap.objs.size + 1 := by rw [Heap.size_update, size_push']
  have hoL : (((s.heap.push (seqObj "list" #[] 0)).update s.heap.objs.size (Obj.mapSeq (· ++ vs.toArray))).push (seqObj "list" vs.toArray 0)).get? (s.heap.objs.size + 1) = some (seqObj "list" vs.toArray 0) := by rw [← hsz3]; exact Heap.get?_push_size _ rfl
  show wpAny _ _ _ _ _ { s with heap := ((s.heap.push (seqObj "list" #[] 0)).update s.heap.objs.size (Obj.mapSeq (· ++ vs.toArray))).push (seqObj "list" vs.toArray 0) }; rw [hsz3]
  refine wpAny_bind (wpAny_holding (wpAny_call_entry slot_list_sort ⟨_, hoL, rfl⟩ entry_list_sort (list_sort_tree hoL hI h64 fun out ns' a1 a2 a3 => ⟨_, rfl, ?_⟩) (args_list_sort _))); exact wpAny_pure ⟨_, rfl, h out ns' a1 a2 a3⟩
/-- sorted(xs): a list or a tuple of ints -/
def rSortA (K : PySem.W.Frag) : List V → Hp → VK → Prop := fun vs H Q => ∃ (a : Addr) (ns : List Int), vs = [V.ref a] ∧ SqA K H a (ns.map V.int) ∧ ns.length < 64 ∧
  ∀ (ms : List Int) (p : Addr), ms.Perm ns → ms.Pairwise (· ≤ ·) → H p = none → Q (.ref p) (upd H p (.lst (ms.map V.int)))
theorem cr_sortA {X : Cx} : CallR X (.builtin "sorted") (rSortA X.K) := by
  intro pins s σ H vs us Q I r h
  obtain ⟨a, ns, rfl, hs, h64, q⟩ := h
  rcases hs with hs | hs
  · exact cr_sorted pins s σ H _ us Q I r ⟨a, ns, rfl, hs, h64, q⟩
  · obtain ⟨its, rv, hl, _⟩ := I.tuple hs
    rw [Vals.ref1 r]
    have hi := rv.ints
    refine sorted_tupI hl hi (by rw [hi.length]; exact h64) fun out ms h1 h2 h3 => ?_
    obtain ⟨ep, he2⟩ := PyProof.Rows.sortedAll_at s.heap its out
    have hlen : (ms.map V.int).length ≤ sizeLine := by rw [List.length_map, h2.length_eq]; exact small64 h64
    refine ⟨.ref _, upd H (s.heap.objs.size + 1) (.lst (ms.map V.int)), I.laid (t' := s.toks) (fun _ _ => PyProof.Rows.sortedAll_old) (Nat.le_succ _) ⟨hlen, out.toList, ep, vals_of_ints h1, he2⟩, rfl, ?_⟩
    exact q ms _ h2 h3 (I.hok.fresh (Nat.le_succ _))

/-! ### t.index(i), a tuple of ints that is tracked; l.index(i), a list of ints -/
def rIdx : V → List V → Hp → VK → Prop := fun x xs H Q => ∃ (p : Addr) (ns : List Int) (i : Int), x = .ref p ∧ xs = [.int i] ∧ H p = some (.tup (ns.map V.int)) ∧ i ∈ ns ∧ Q (.int (ns.idxOf i : Nat)) H
end EF
namespace EF
open PySem PySem.Spec PyProof.Rows L2

theorem idx_at : ∀ {ns : List Int} {i : Int}, i ∈ ns → ns[ns.idxOf i]? = some i
  | n :: ns, i, h => by
    by_cases e : n = i
    · subst e; simp
    · have h2 : i ∈ ns := by
        rcases List.mem_cons.mp h with q | q
        · exact absurd q.symm e
        · exact q
      have e2 : (n :: ns).idxOf i = ns.idxOf i + 1 := by rw [List.idxOf_cons, beq_eq_false_iff_ne.mpr e]; rfl
      rw [e2]
      exact idx_at h2
theorem idx_no : ∀ {ns : List Int} {i : Int} {m : Nat}, m < ns.idxOf i → ns[m]? ≠ some i
  | [], i, m, h => by simp
  | n :: ns, i, m, h => by
    by_cases e : n = i
    · subst e; simp at h
    · have e2 : (n :: ns).idxOf i = ns.idxOf i + 1 := by rw [List.idxOf_cons, beq_eq_false_iff_ne.mpr e]; rfl
      rw [e2] at h
      cases m with
      | zero =>
        intro q
        exact e (Option.some.inj q)
      | succ m => exact idx_no (ns := ns) (by omega)
theorem idx_lt {ns : List Int} {i : Int} (h : i ∈ ns) : ns.idxOf i < ns.length := (List.getElem?_eq_some_iff.mp (idx_at h)).1

/-- tuple(l): the new tuple, known to its object -/
def rTupF (K : PySem.W.Frag) : List V → Hp → VK → Prop := fun xs H Q => ∃ (p : Addr) (ys : List V), xs = [.ref p] ∧ SqL K H p ys ∧
  ∀ (l : Addr) (o : Obj), H l = none → o.cls = .type "tuple" → o.dict = none → Q (.ref l) (upd H l (.frz o (.tup ys)))
theorem call_tupleF {X : Cx} : CallR X (.type "tuple") (rTupF X.K) := by
  intro pins s σ H xs us Q I r h
  obtain ⟨p, ys, rfl, hq, q⟩ := h
  obtain ⟨u, rfl, rx⟩ := vals1 r
  cases rx
  obtain ⟨its, r2, pl, hz⟩ := I.list hq
  have hlen := r2.length
  refine call_tuple_list pl.isList (fun h2 kp => ?_) (by simp only [List.size_toArray] <;> omega)
  have I1 : Inv X pins σ H { s with heap := h2 } := I.kept (t' := s.toks) kp
  have e0 : (h2.push { cls := .type "tuple", data := .seq its.toArray }).get? h2.objs.size = some { cls := .type "tuple", data := .seq its.toArray } := Heap.get?_push_size _ rfl
  have I2 : Inv X pins σ (upd H h2.objs.size (.frz { cls := .type "tuple", data := .seq its.toArray } (.tup ys))) { s with heap := h2.push { cls := .type "tuple", data := .seq its.toArray } } :=
    I1.laid (t' := s.toks) (fun b o e => Heap.get?_push_of_some _ e) (Nat.le_refl _) (show ObjOk X.prog X.w _ _ _ (.frz _ (.tup ys)) from ⟨e0, hz, its, r2, IsTup.new _ _⟩)
  exact ⟨.ref h2.objs.size, _, I2, rfl, q _ _ (I1.hok.fresh (Nat.le_refl _)) rfl rfl⟩
/-- t.index(i), t such a tuple of ints -/
def qTIdx (p : Addr) (o : Obj) (ns : List Int) (Q : VK) : List V → Hp → Prop := fun xs H2 => ∃ i : Int, xs = [.int i] ∧ H2 p = some (.frz o (.tup (ns.map V.int))) ∧ i ∈ ns ∧ Q (.int (ns.idxOf i : Nat)) H2
def tTIdx (to te : TE) : TE := fun σ H Q => to σ H fun x H1 => ∃ (p : Addr) (o : Obj) (ns : List Int), x = .ref p ∧ H1 p = some (.frz o (.tup (ns.map V.int))) ∧ o.cls = .type "tuple" ∧ o.dict = none ∧
  te σ H1 fun y H2 => qTIdx p o ns Q [y] H2
theorem pe_tindex {X : Cx} {o e : Expr} {to te : TE} {apos cpos : Pos} (ho : PE X o to) (he : PE X e te)
    (hbase : attributeBase o "index" X.env (eval o X.env) = eval o X.env := by rfl)
    (hfew : ((backTo cpos (starEach [e] X.env)).all (fun x => !x.1) && (backToKw cpos (keywordEach [] X.env)).all (fun x => x.1.isSome) && decide ([e].length + ([] : List Keyword).length + (if ([] : List Keyword).isEmpty then 0 else 1) < 30)) = true := by rfl)
    (hline : (apos.endLine == cpos.line) = true := by rfl) (hs : starEach [e] X.env = [(false, eval e X.env)] := by rfl) :
    PE X (.Call (.Attribute o "index" apos) [e] [] cpos) (tTIdx to te) := by
  refine ⟨fun pins s σ H Q I h => ?_⟩
  refine wpAny_Call_method_late hbase hfew hline rfl (thn (ho.run pins s σ H _ I h) fun v s1 ⟨x, H1, I1, r1, p, ob, ns, ex, hp, hcl, hdi, q1⟩ => ?_)
  subst ex
  cases r1
  obtain ⟨hg, hz, its, rv, _⟩ := (show ObjOk X.prog X.w H1 s1.heap p (.frz ob (.tup (ns.map V.int))) from I1.hok p _ hp)
  refine ⟨"tuple", _, PySem.F.plainAttrs_tuple, PySem.F.slot_tuple_index, PySem.F.type_tuple_index, ⟨ob, hg, hcl⟩, fun a e => ?_, ?_⟩
  · cases e
    exact ⟨ob, hg, hdi⟩
  have hA := (pa_cons he pa_nil hs).run cpos pins s1 σ H1 (qTIdx p ob ns Q) I1 q1
  rw [hs] at hA ⊢
  refine Calls.callWith_builtin rfl (Calls.evalArgs_plain ?_)
  refine thn hA fun us s2 ⟨vs, H2, I2, r2, q2⟩ => ?_
  obtain ⟨i, rfl, hp2, hi, q⟩ := q2
  obtain ⟨u, rfl, t, rfl⟩ := vals1 r2
  obtain ⟨hg2, hz2, its2, rv2, pl⟩ := (show ObjOk X.prog X.w H2 s2.heap p (.frz ob (.tup (ns.map V.int))) from I2.hok p _ hp2)
  obtain ⟨⟨cls, dd, dt, sl⟩, ho3, hc, n, hd⟩ := pl
  simp only at hc hd
  subst hc; subst hd
  have hl : its2.toArray.size = ns.length := by rw [List.size_toArray, ← rv2.length, List.length_map]
  have hj : ns.idxOf i < its2.toArray.size := by rw [hl]; exact idx_lt hi
  have at2 : ∀ (m : Nat) (hm : m < its2.toArray.size), ∃ y t3, ns[m]? = some y ∧ its2.toArray[m] = Value.int y t3 := fun m hm => by
    have hm2 : m < ns.length := by rw [← hl]; exact hm
    obtain ⟨w, hw, t3, hw3⟩ := rv2.get (i := m) (x := .int ns[m]) (by simp [hm2])
    refine ⟨ns[m], t3, List.getElem?_eq_getElem hm2, ?_⟩
    have e := (List.getElem?_eq_some_iff.mp hw).2
    rw [← hw3, ← e]
    simp
  refine call_meets PySem.F.slot_tuple_index ⟨_, ho3, rfl⟩ PySem.F.entry_tuple_index (PySem.F.args_tuple_index_2 _ _) (TI.tuple_indexAt p its2.toArray n dd sl (.int i t) (eqU (.int i)) (ns.idxOf i) hj ?_ ?_)
    ⟨ho3, fun w hw => mem_eqAt (x := .int i) ⟨t, rfl⟩ rfl rv2 (flat_ints ns) w (by simpa using hw), ⟨.int (ns.idxOf i : Nat), H2, I2.tok _, ⟨_, rfl⟩, q⟩⟩
  · obtain ⟨y, t4, h1, h2⟩ := at2 _ hj
    rw [idx_at hi] at h1
    cases h1
    rw [h2]
    show (i == i) = true
    exact beq_self_eq_true i
  · intro m hm hlt
    obtain ⟨y, t4, h1, h2⟩ := at2 m hm
    rw [h2]
    show (y == i) = false
    refine beq_eq_false_iff_ne.mpr fun e => idx_no hlt ?_
    rw [h1, e]
/-- l.index(i), a list of ints -/
def rIdxL (K : PySem.W.Frag) : V → List V → Hp → VK → Prop := fun x xs H Q => ∃ (p : Addr) (ns : List Int) (i : Int), x = .ref p ∧ xs = [.int i] ∧ SqL K H p (ns.map V.int) ∧ i ∈ ns ∧ Q (.int (ns.idxOf i : Nat)) H
theorem mt_idxL {X : Cx} : MtR X "list.index" (rIdxL X.K) := by
  intro pins s σ H x xs v us Q I rx rs h
  obtain ⟨p, ns, i, ex, exs, hs, hi, q⟩ := h
  refine mt_index pins s σ H x xs v us Q I rx rs ⟨p, ns.map V.int, .int i, ns.idxOf i, .int i, ex, exs, hs, rfl, flat_ints ns, ?_, beq_self_eq_true i, fun m z hm hz => ?_, q⟩
  · rw [List.getElem?_map, idx_at hi]; rfl
  · rw [List.getElem?_map] at hz
    cases e : ns[m]? with
    | none => rw [e] at hz; cases hz
    | some y =>
      rw [e] at hz
      cases hz
      show (y == i) = false
      refine beq_eq_false_iff_ne.mpr fun e2 => idx_no hm ?_
      rw [e, e2]
/-! the rules that name the written part, with its name given (within a comprehension) -/
section
variable {X : Cx} {K : PySem.W.Frag}
theorem op_inK (e : X.K = K) : OpR X (compareOp .In) (rInI K) := by subst e; exact op_inI
theorem op_niK (e : X.K = K) : OpR X (compareOp .NotIn) (rNiI K) := by subst e; exact op_niI
theorem ix_listK (e : X.K = K) : IxR X (rIxL K) := by subst e; exact ix_list
theorem pe_fldK {a : Expr} {f : Str} {pos : Pos} {ta : TE} (e : X.K = K) (he : PE X a ta) (hb : attributeBase a f X.env (eval a X.env) = eval a X.env) : PE X (.Attribute a f pos) (tFld K ta f) := by subst e; exact pe_fld he hb
end
end EF
namespace EF
open PySem PySem.Spec PyProof.Rows L2
abbrev PG : Program := PySem.Challenge.pw_evenfailover_k87_whole_only_the_live_set
def top (i : Nat) : Stmt := PG.main.body.getD i (.Pass ⟨0, 0, 0, 0⟩)

abbrev s_is_integer_numbers : Stmt := top 12
abbrev s_binomial : Stmt := top 14
abbrev s_edge_divisor : Stmt := top 15
abbrev s_common_divisor : Stmt := top 16
abbrev s_common_multiple : Stmt := top 17
abbrev s_least_lists : Stmt := top 18
abbrev s_is_possible : Stmt := top 19
abbrev s_outside : Stmt := top 21
abbrev s_with_server : Stmt := top 22
abbrev s_look_at_count : Stmt := top 24
abbrev s_next_place : Stmt := top 25
abbrev s_walk : Stmt := top 26
abbrev s_list_at : Stmt := top 27
abbrev s_holders : Stmt := top 29
abbrev s_live_in : Stmt := top 31
abbrev s_successor_failures : Stmt := top 32
abbrev s_is_integer_cluster : Stmt := top 37
abbrev s_C_init : Stmt := inClass (top 39) 0
abbrev s_C_eq : Stmt := inClass (top 39) 1
abbrev s_C_len : Stmt := inClass (top 39) 2
abbrev s_C_live : Stmt := inClass (top 39) 3
abbrev s_C_is_live : Stmt := inClass (top 39) 4
abbrev s_C_order_of : Stmt := inClass (top 39) 5
abbrev s_C_owners : Stmt := inClass (top 39) 6
abbrev s_C_load : Stmt := inClass (top 39) 7
abbrev s_C_check_failure : Stmt := inClass (top 39) 8
abbrev s_C_successor : Stmt := inClass (top 39) 9
abbrev s_C_fail : Stmt := inClass (top 39) 10
abbrev s_C_recover : Stmt := inClass (top 39) 11
abbrev s_C_changes : Stmt := inClass (top 39) 13
abbrev s_C_undo : Stmt := inClass (top 39) 14
abbrev s_C_copy : Stmt := inClass (top 39) 15
abbrev s_integer_of : Stmt := top 43
abbrev s_integers_of : Stmt := top 44
abbrev s_blanks : Stmt := top 45
abbrev s_rows_of : Stmt := top 46
abbrev s_head_of : Stmt := top 47
abbrev s_show_cluster : Stmt := top 48
abbrev s_dead_of : Stmt := top 49
abbrev s_begun : Stmt := top 50
abbrev s_read_cluster : Stmt := top 51
abbrev s__law_stream : Stmt := top 53
abbrev s__law_draw : Stmt := top 54
abbrev s__law_pick : Stmt := top 55
abbrev s__law_shuffled : Stmt := top 56
abbrev s__law_alive : Stmt := top 57
abbrev s__law_comb : Stmt := top 58
abbrev s__law_order : Stmt := top 59
abbrev s__law_gcd : Stmt := top 60
abbrev s__law_least : Stmt := top 61
abbrev s__law_sizes : Stmt := top 62
abbrev s__law_orders : Stmt := top 63
abbrev s__law_owned : Stmt := top 64
abbrev s__law_up : Stmt := top 65
abbrev s__law_moves : Stmt := top 66
abbrev s__law_told : Stmt := top 67
abbrev s__law_next_told : Stmt := top 68
abbrev s_law : Stmt := top 69
def d_is_integer_numbers : He.DefD := ⟨("is_integer_numbers", none), "is_integer", "is_integer", defArgs s_is_integer_numbers, defBody s_is_integer_numbers, defScope s_is_integer_numbers, [], []⟩
def d_binomial : He.DefD := ⟨("binomial", none), "binomial", "binomial", defArgs s_binomial, defBody s_binomial, defScope s_binomial, [], []⟩
def d_edge_divisor : He.DefD := ⟨("edge_divisor", none), "edge_divisor", "edge_divisor", defArgs s_edge_divisor, defBody s_edge_divisor, defScope s_edge_divisor, [], []⟩
def d_common_divisor : He.DefD := ⟨("common_divisor", none), "common_divisor", "common_divisor", defArgs s_common_divisor, defBody s_common_divisor, defScope s_common_divisor, [], []⟩
def d_common_multiple : He.DefD := ⟨("common_multiple", none), "common_multiple", "common_multiple", defArgs s_common_multiple, defBody s_common_multiple, defScope s_common_multiple, [], []⟩
def d_least_lists : He.DefD := ⟨("least_lists", none), "least_lists", "least_lists", defArgs s_least_lists, defBody s_least_lists, defScope s_least_lists, [], []⟩
def d_is_possible : He.DefD := ⟨("is_possible", none), "is_possible", "is_possible", defArgs s_is_possible, defBody s_is_possible, defScope s_is_possible, [], []⟩
def d_outside : He.DefD := ⟨("outside", none), "outside", "outside", defArgs s_outside, defBody s_outside, defScope s_outside, [], []⟩
def d_with_server : He.DefD := ⟨("with_server", none), "with_server", "with_server", defArgs s_with_server, defBody s_with_server, defScope s_with_server, [], []⟩
def d_look_at_count : He.DefD := ⟨("look_at_count", none), "look_at_count", "look_at_count", defArgs s_look_at_count, defBody s_look_at_count, defScope s_look_at_count, [], []⟩
def d_next_place : He.DefD := ⟨("next_place", none), "next_place", "next_place", defArgs s_next_place, defBody s_next_place, defScope s_next_place, [], []⟩
def d_walk : He.DefD := ⟨("walk", none), "walk", "walk", defArgs s_walk, defBody s_walk, defScope s_walk, [], []⟩
def d_list_at : He.DefD := ⟨("list_at", none), "list_at", "list_at", defArgs s_list_at, defBody s_list_at, defScope s_list_at, [], []⟩
def d_holders : He.DefD := ⟨("holders", none), "holders", "holders", defArgs s_holders, defBody s_holders, defScope s_holders, [], []⟩
def d_live_in : He.DefD := ⟨("live_in", none), "live_in", "live_in", defArgs s_live_in, defBody s_live_in, defScope s_live_in, [], []⟩
def d_successor_failures : He.DefD := ⟨("successor_failures", none), "successor", "successor", defArgs s_successor_failures, defBody s_successor_failures, defScope s_successor_failures, [], []⟩
def d_is_integer_cluster : He.DefD := ⟨("is_integer_cluster", none), "is_integer", "is_integer", defArgs s_is_integer_cluster, defBody s_is_integer_cluster, defScope s_is_integer_cluster, [], []⟩
def d_C_init : He.DefD := ⟨("Cluster", some "__init__"), "__init__", "Cluster.__init__", defArgs s_C_init, defBody s_C_init, defScope s_C_init, [], []⟩
def d_C_eq : He.DefD := ⟨("Cluster", some "__eq__"), "__eq__", "Cluster.__eq__", defArgs s_C_eq, defBody s_C_eq, defScope s_C_eq, [], []⟩
def d_C_len : He.DefD := ⟨("Cluster", some "__len__"), "__len__", "Cluster.__len__", defArgs s_C_len, defBody s_C_len, defScope s_C_len, [], []⟩
def d_C_live : He.DefD := ⟨("Cluster", some "live"), "live", "Cluster.live", defArgs s_C_live, defBody s_C_live, defScope s_C_live, [], []⟩
def d_C_is_live : He.DefD := ⟨("Cluster", some "is_live"), "is_live", "Cluster.is_live", defArgs s_C_is_live, defBody s_C_is_live, defScope s_C_is_live, [], []⟩
def d_C_order_of : He.DefD := ⟨("Cluster", some "order_of"), "order_of", "Cluster.order_of", defArgs s_C_order_of, defBody s_C_order_of, defScope s_C_order_of, [], []⟩
def d_C_owners : He.DefD := ⟨("Cluster", some "owners"), "owners", "Cluster.owners", defArgs s_C_owners, defBody s_C_owners, defScope s_C_owners, [], []⟩
def d_C_load : He.DefD := ⟨("Cluster", some "load"), "load", "Cluster.load", defArgs s_C_load, defBody s_C_load, defScope s_C_load, [], []⟩
def d_C_check_failure : He.DefD := ⟨("Cluster", some "check_failure"), "check_failure", "Cluster.check_failure", defArgs s_C_check_failure, defBody s_C_check_failure, defScope s_C_check_failure, [], []⟩
def d_C_successor : He.DefD := ⟨("Cluster", some "successor"), "successor", "Cluster.successor", defArgs s_C_successor, defBody s_C_successor, defScope s_C_successor, [], []⟩
def d_C_fail : He.DefD := ⟨("Cluster", some "fail"), "fail", "Cluster.fail", defArgs s_C_fail, defBody s_C_fail, defScope s_C_fail, [], []⟩
def d_C_recover : He.DefD := ⟨("Cluster", some "recover"), "recover", "Cluster.recover", defArgs s_C_recover, defBody s_C_recover, defScope s_C_recover, [], []⟩
def d_C_changes : He.DefD := ⟨("Cluster", some "changes"), "changes", "Cluster.changes", defArgs s_C_changes, defBody s_C_changes, defScope s_C_changes, [], []⟩
def d_C_undo : He.DefD := ⟨("Cluster", some "undo"), "undo", "Cluster.undo", defArgs s_C_undo, defBody s_C_undo, defScope s_C_undo, [], []⟩
def d_C_copy : He.DefD := ⟨("Cluster", some "copy"), "copy", "Cluster.copy", defArgs s_C_copy, defBody s_C_copy, defScope s_C_copy, [], []⟩
def d_integer_of : He.DefD := ⟨("integer_of", none), "integer_of", "integer_of", defArgs s_integer_of, defBody s_integer_of, defScope s_integer_of, [], []⟩
def d_integers_of : He.DefD := ⟨("integers_of", none), "integers_of", "integers_of", defArgs s_integers_of, defBody s_integers_of, defScope s_integers_of, [], []⟩
def d_blanks : He.DefD := ⟨("blanks", none), "blanks", "blanks", defArgs s_blanks, defBody s_blanks, defScope s_blanks, [], []⟩
def d_rows_of : He.DefD := ⟨("rows_of", none), "rows_of", "rows_of", defArgs s_rows_of, defBody s_rows_of, defScope s_rows_of, [], []⟩
def d_head_of : He.DefD := ⟨("head_of", none), "head_of", "head_of", defArgs s_head_of, defBody s_head_of, defScope s_head_of, [], []⟩
def d_show_cluster : He.DefD := ⟨("show_cluster", none), "show_cluster", "show_cluster", defArgs s_show_cluster, defBody s_show_cluster, defScope s_show_cluster, [], []⟩
def d_dead_of : He.DefD := ⟨("dead_of", none), "dead_of", "dead_of", defArgs s_dead_of, defBody s_dead_of, defScope s_dead_of, [], []⟩
def d_begun : He.DefD := ⟨("begun", none), "begun", "begun", defArgs s_begun, defBody s_begun, defScope s_begun, [], []⟩
def d_read_cluster : He.DefD := ⟨("read_cluster", none), "read_cluster", "read_cluster", defArgs s_read_cluster, defBody s_read_cluster, defScope s_read_cluster, [], []⟩
def d__law_stream : He.DefD := ⟨("_law_stream", none), "_law_stream", "_law_stream", defArgs s__law_stream, defBody s__law_stream, defScope s__law_stream, [], []⟩
def d__law_draw : He.DefD := ⟨("_law_draw", none), "_law_draw", "_law_draw", defArgs s__law_draw, defBody s__law_draw, defScope s__law_draw, [], []⟩
def d__law_pick : He.DefD := ⟨("_law_pick", none), "_law_pick", "_law_pick", defArgs s__law_pick, defBody s__law_pick, defScope s__law_pick, [], []⟩
def d__law_shuffled : He.DefD := ⟨("_law_shuffled", none), "_law_shuffled", "_law_shuffled", defArgs s__law_shuffled, defBody s__law_shuffled, defScope s__law_shuffled, [], []⟩
def d__law_alive : He.DefD := ⟨("_law_alive", none), "_law_alive", "_law_alive", defArgs s__law_alive, defBody s__law_alive, defScope s__law_alive, [], []⟩
def d__law_comb : He.DefD := ⟨("_law_comb", none), "_law_comb", "_law_comb", defArgs s__law_comb, defBody s__law_comb, defScope s__law_comb, [], []⟩
def d__law_order : He.DefD := ⟨("_law_order", none), "_law_order", "_law_order", defArgs s__law_order, defBody s__law_order, defScope s__law_order, [], []⟩
def d__law_gcd : He.DefD := ⟨("_law_gcd", none), "_law_gcd", "_law_gcd", defArgs s__law_gcd, defBody s__law_gcd, defScope s__law_gcd, [], []⟩
def d__law_least : He.DefD := ⟨("_law_least", none), "_law_least", "_law_least", defArgs s__law_least, defBody s__law_least, defScope s__law_least, [], []⟩
def d__law_sizes : He.DefD := ⟨("_law_sizes", none), "_law_sizes", "_law_sizes", defArgs s__law_sizes, defBody s__law_sizes, defScope s__law_sizes, [], []⟩
def d__law_orders : He.DefD := ⟨("_law_orders", none), "_law_orders", "_law_orders", defArgs s__law_orders, defBody s__law_orders, defScope s__law_orders, [], []⟩
def d__law_owned : He.DefD := ⟨("_law_owned", none), "_law_owned", "_law_owned", defArgs s__law_owned, defBody s__law_owned, defScope s__law_owned, [], []⟩
def d__law_up : He.DefD := ⟨("_law_up", none), "_law_up", "_law_up", defArgs s__law_up, defBody s__law_up, defScope s__law_up, [], []⟩
def d__law_moves : He.DefD := ⟨("_law_moves", none), "_law_moves", "_law_moves", defArgs s__law_moves, defBody s__law_moves, defScope s__law_moves, [], []⟩
def d__law_told : He.DefD := ⟨("_law_told", none), "_law_told", "_law_told", defArgs s__law_told, defBody s__law_told, defScope s__law_told, [], []⟩
def d__law_next_told : He.DefD := ⟨("_law_next_told", none), "_law_next_told", "_law_next_told", defArgs s__law_next_told, defBody s__law_next_told, defScope s__law_next_told, [], []⟩
def d_law : He.DefD := ⟨("law", none), "law", "law", defArgs s_law, defBody s_law, defScope s_law, [], []⟩
def defsL : List He.DefD := [d_is_integer_numbers, d_binomial, d_edge_divisor, d_common_divisor, d_common_multiple, d_least_lists, d_is_possible, d_outside, d_with_server, d_look_at_count, d_next_place, d_walk, d_list_at, d_holders, d_live_in, d_successor_failures, d_is_integer_cluster, d_C_init, d_C_eq, d_C_len, d_C_live, d_C_is_live, d_C_order_of, d_C_owners, d_C_load, d_C_check_failure, d_C_successor, d_C_fail, d_C_recover, d_C_changes, d_C_undo, d_C_copy, d_integer_of, d_integers_of, d_blanks, d_rows_of, d_head_of, d_show_cluster, d_dead_of, d_begun, d_read_cluster, d__law_stream, d__law_draw, d__law_pick, d__law_shuffled, d__law_alive, d__law_comb, d__law_order, d__law_gcd, d__law_least, d__law_sizes, d__law_orders, d__law_owned, d__law_up, d__law_moves, d__law_told, d__law_next_told, d_law]
def factsA : List He.Fa := [.glo "is_integer_numbers", .glo "binomial", .glo "edge_divisor", .glo "common_divisor", .glo "common_multiple", .glo "least_lists", .glo "is_possible", .glo "outside", .glo "with_server", .glo "look_at_count", .glo "next_place", .glo "walk", .glo "list_at", .glo "holders", .glo "live_in", .glo "successor_failures", .glo "is_integer_cluster", .glo "integer_of", .glo "integers_of", .glo "blanks", .glo "rows_of", .glo "head_of", .glo "show_cluster", .glo "dead_of", .glo "begun", .glo "read_cluster", .glo "_law_stream", .glo "_law_draw", .glo "_law_pick", .glo "_law_shuffled", .glo "_law_alive", .glo "_law_comb", .glo "_law_order", .glo "_law_gcd", .glo "_law_least", .glo "_law_sizes", .glo "_law_orders", .glo "_law_owned", .glo "_law_up", .glo "_law_moves", .glo "_law_told", .glo "_law_next_told", .glo "law"]
def factsB : List He.Fa := [.free "len", .free "int", .free "isinstance", .free "min", .free "max", .free "range", .free "tuple", .free "sorted", .free "zip", .free "all", .free "str", .free "list", .free "dict", .free "abs", .free "bool", .free "ValueError", .int "LEAST_SERVERS" 2, .int "MOST_SERVERS" 60, .int "MOST_DIGITS" 40, .str "DIGITS" "0123456789", .glo "Cluster", .cls "Cluster", .mkr "Cluster", .noat "Cluster" "depth", .noat "Cluster" "n", .noat "Cluster" "failures", .noat "Cluster" "factor", .noat "Cluster" "count", .noat "Cluster" "dead", .noat "Cluster" "done", .meth "Cluster" "__eq__", .meth "Cluster" "__len__", .meth "Cluster" "live", .meth "Cluster" "is_live", .meth "Cluster" "order_of", .meth "Cluster" "owners", .meth "Cluster" "load", .meth "Cluster" "check_failure", .meth "Cluster" "successor", .meth "Cluster" "fail", .meth "Cluster" "recover", .meth "Cluster" "changes", .meth "Cluster" "undo", .meth "Cluster" "copy"]
def factsL : List He.Fa := factsA ++ factsB

def exB (K : PySem.W.Frag) : Bool :=
  He.eqO (PySem.W.findIn K (.ref (He.ga K "Cluster")) "__class__") (some (some (.builtin "object.__class__"))) &&
  (He.eqO (PySem.W.specialIn K (.builtin "object.__class__") "__get__") (some (some (.builtin "getset_descriptor.__get__"))) &&
  (decide (PySem.W.takesIn K (.builtin "object.__class__") = some true) && (decide (PySem.W.mroIn K (He.ga K "Cluster") (.type "object") = some true) &&
  (decide (PySem.W.kitOne K (.ref (He.ga K "Cluster")) (.ref (He.ga K "Cluster")) = some true) && He.eqO (PySem.W.nsIn K cStatics "sys.int_max_str_digits") (some none)))))

abbrev Cc (K : PySem.W.Frag) : Addr := He.ga K "Cluster"
/-- what the top has written, as the head tells it -/
structure Tx (K : PySem.W.Frag) (mg : Str → Option Value) : Prop where
  h : ∃ h : Heap, K.In h ∧ h.Ns mainGlobals mg
  c : He.SaysD factsL defsL K
  x : exB K = true
section
variable {K : PySem.W.Frag} {mg : Str → Option Value}
theorem Tx.g_is_integer_numbers (T : Tx K mg) : mg "is_integer_numbers" = some (.ref (He.ga K "is_integer_numbers")) := let ⟨_, X, G⟩ := T.h; He.glo_ok X G (T.c.fact 0 (f := .glo "is_integer_numbers") rfl)
theorem Tx.g_binomial (T : Tx K mg) : mg "binomial" = some (.ref (He.ga K "binomial")) := let ⟨_, X, G⟩ := T.h; He.glo_ok X G (T.c.fact 1 (f := .glo "binomial") rfl)
theorem Tx.g_edge_divisor (T : Tx K mg) : mg "edge_divisor" = some (.ref (He.ga K "edge_divisor")) := let ⟨_, X, G⟩ := T.h; He.glo_ok X G (T.c.fact 2 (f := .glo "edge_divisor") rfl)
theorem Tx.g_common_divisor (T : Tx K mg) : mg "common_divisor" = some (.ref (He.ga K "common_divisor")) := let ⟨_, X, G⟩ := T.h; He.glo_ok X G (T.c.fact 3 (f := .glo "common_divisor") rfl)
theorem Tx.g_common_multiple (T : Tx K mg) : mg "common_multiple" = some (.ref (He.ga K "common_multiple")) := let ⟨_, X, G⟩ := T.h; He.glo_ok X G (T.c.fact 4 (f := .glo "common_multiple") rfl)
theorem Tx.g_least_lists (T : Tx K mg) : mg "least_lists" = some (.ref (He.ga K "least_lists")) := let ⟨_, X, G⟩ := T.h; He.glo_ok X G (T.c.fact 5 (f := .glo "least_lists") rfl)
theorem Tx.g_is_possible (T : Tx K mg) : mg "is_possible" = some (.ref (He.ga K "is_possible")) := let ⟨_, X, G⟩ := T.h; He.glo_ok X G (T.c.fact 6 (f := .glo "is_possible") rfl)
theorem Tx.g_outside (T : Tx K mg) : mg "outside" = some (.ref (He.ga K "outside")) := let ⟨_, X, G⟩ := T.h; He.glo_ok X G (T.c.fact 7 (f := .glo "outside") rfl)
theorem Tx.g_with_server (T : Tx K mg) : mg "with_server" = some (.ref (He.ga K "with_server")) := let ⟨_, X, G⟩ := T.h; He.glo_ok X G (T.c.fact 8 (f := .glo "with_server") rfl)
theorem Tx.g_look_at_count (T : Tx K mg) : mg "look_at_count" = some (.ref (He.ga K "look_at_count")) := let ⟨_, X, G⟩ := T.h; He.glo_ok X G (T.c.fact 9 (f := .glo "look_at_count") rfl)
theorem Tx.g_next_place (T : Tx K mg) : mg "next_place" = some (.ref (He.ga K "next_place")) := let ⟨_, X, G⟩ := T.h; He.glo_ok X G (T.c.fact 10 (f := .glo "next_place") rfl)
theorem Tx.g_walk (T : Tx K mg) : mg "walk" = some (.ref (He.ga K "walk")) := let ⟨_, X, G⟩ := T.h; He.glo_ok X G (T.c.fact 11 (f := .glo "walk") rfl)
theorem Tx.g_list_at (T : Tx K mg) : mg "list_at" = some (.ref (He.ga K "list_at")) := let ⟨_, X, G⟩ := T.h; He.glo_ok X G (T.c.fact 12 (f := .glo "list_at") rfl)
theorem Tx.g_holders (T : Tx K mg) : mg "holders" = some (.ref (He.ga K "holders")) := let ⟨_, X, G⟩ := T.h; He.glo_ok X G (T.c.fact 13 (f := .glo "holders") rfl)
theorem Tx.g_live_in (T : Tx K mg) : mg "live_in" = some (.ref (He.ga K "live_in")) := let ⟨_, X, G⟩ := T.h; He.glo_ok X G (T.c.fact 14 (f := .glo "live_in") rfl)
theorem Tx.g_successor_failures (T : Tx K mg) : mg "successor_failures" = some (.ref (He.ga K "successor_failures")) := let ⟨_, X, G⟩ := T.h; He.glo_ok X G (T.c.fact 15 (f := .glo "successor_failures") rfl)
theorem Tx.g_is_integer_cluster (T : Tx K mg) : mg "is_integer_cluster" = some (.ref (He.ga K "is_integer_cluster")) := let ⟨_, X, G⟩ := T.h; He.glo_ok X G (T.c.fact 16 (f := .glo "is_integer_cluster") rfl)
theorem Tx.g_integer_of (T : Tx K mg) : mg "integer_of" = some (.ref (He.ga K "integer_of")) := let ⟨_, X, G⟩ := T.h; He.glo_ok X G (T.c.fact 17 (f := .glo "integer_of") rfl)
theorem Tx.g_integers_of (T : Tx K mg) : mg "integers_of" = some (.ref (He.ga K "integers_of")) := let ⟨_, X, G⟩ := T.h; He.glo_ok X G (T.c.fact 18 (f := .glo "integers_of") rfl)
theorem Tx.g_blanks (T : Tx K mg) : mg "blanks" = some (.ref (He.ga K "blanks")) := let ⟨_, X, G⟩ := T.h; He.glo_ok X G (T.c.fact 19 (f := .glo "blanks") rfl)
theorem Tx.g_rows_of (T : Tx K mg) : mg "rows_of" = some (.ref (He.ga K "rows_of")) := let ⟨_, X, G⟩ := T.h; He.glo_ok X G (T.c.fact 20 (f := .glo "rows_of") rfl)
theorem Tx.g_head_of (T : Tx K mg) : mg "head_of" = some (.ref (He.ga K "head_of")) := let ⟨_, X, G⟩ := T.h; He.glo_ok X G (T.c.fact 21 (f := .glo "head_of") rfl)
theorem Tx.g_show_cluster (T : Tx K mg) : mg "show_cluster" = some (.ref (He.ga K "show_cluster")) := let ⟨_, X, G⟩ := T.h; He.glo_ok X G (T.c.fact 22 (f := .glo "show_cluster") rfl)
theorem Tx.g_dead_of (T : Tx K mg) : mg "dead_of" = some (.ref (He.ga K "dead_of")) := let ⟨_, X, G⟩ := T.h; He.glo_ok X G (T.c.fact 23 (f := .glo "dead_of") rfl)
theorem Tx.g_begun (T : Tx K mg) : mg "begun" = some (.ref (He.ga K "begun")) := let ⟨_, X, G⟩ := T.h; He.glo_ok X G (T.c.fact 24 (f := .glo "begun") rfl)
theorem Tx.g_read_cluster (T : Tx K mg) : mg "read_cluster" = some (.ref (He.ga K "read_cluster")) := let ⟨_, X, G⟩ := T.h; He.glo_ok X G (T.c.fact 25 (f := .glo "read_cluster") rfl)
theorem Tx.g__law_stream (T : Tx K mg) : mg "_law_stream" = some (.ref (He.ga K "_law_stream")) := let ⟨_, X, G⟩ := T.h; He.glo_ok X G (T.c.fact 26 (f := .glo "_law_stream") rfl)
theorem Tx.g__law_draw (T : Tx K mg) : mg "_law_draw" = some (.ref (He.ga K "_law_draw")) := let ⟨_, X, G⟩ := T.h; He.glo_ok X G (T.c.fact 27 (f := .glo "_law_draw") rfl)
theorem Tx.g__law_pick (T : Tx K mg) : mg "_law_pick" = some (.ref (He.ga K "_law_pick")) := let ⟨_, X, G⟩ := T.h; He.glo_ok X G (T.c.fact 28 (f := .glo "_law_pick") rfl)
theorem Tx.g__law_shuffled (T : Tx K mg) : mg "_law_shuffled" = some (.ref (He.ga K "_law_shuffled")) := let ⟨_, X, G⟩ := T.h; He.glo_ok X G (T.c.fact 29 (f := .glo "_law_shuffled") rfl)
theorem Tx.g__law_alive (T : Tx K mg) : mg "_law_alive" = some (.ref (He.ga K "_law_alive")) := let ⟨_, X, G⟩ := T.h; He.glo_ok X G (T.c.fact 30 (f := .glo "_law_alive") rfl)
theorem Tx.g__law_comb (T : Tx K mg) : mg "_law_comb" = some (.ref (He.ga K "_law_comb")) := let ⟨_, X, G⟩ := T.h; He.glo_ok X G (T.c.fact 31 (f := .glo "_law_comb") rfl)
theorem Tx.g__law_order (T : Tx K mg) : mg "_law_order" = some (.ref (He.ga K "_law_order")) := let ⟨_, X, G⟩ := T.h; He.glo_ok X G (T.c.fact 32 (f := .glo "_law_order") rfl)
theorem Tx.g__law_gcd (T : Tx K mg) : mg "_law_gcd" = some (.ref (He.ga K "_law_gcd")) := let ⟨_, X, G⟩ := T.h; He.glo_ok X G (T.c.fact 33 (f := .glo "_law_gcd") rfl)
theorem Tx.g__law_least (T : Tx K mg) : mg "_law_least" = some (.ref (He.ga K "_law_least")) := let ⟨_, X, G⟩ := T.h; He.glo_ok X G (T.c.fact 34 (f := .glo "_law_least") rfl)
theorem Tx.g__law_sizes (T : Tx K mg) : mg "_law_sizes" = some (.ref (He.ga K "_law_sizes")) := let ⟨_, X, G⟩ := T.h; He.glo_ok X G (T.c.fact 35 (f := .glo "_law_sizes") rfl)
theorem Tx.g__law_orders (T : Tx K mg) : mg "_law_orders" = some (.ref (He.ga K "_law_orders")) := let ⟨_, X, G⟩ := T.h; He.glo_ok X G (T.c.fact 36 (f := .glo "_law_orders") rfl)
theorem Tx.g__law_owned (T : Tx K mg) : mg "_law_owned" = some (.ref (He.ga K "_law_owned")) := let ⟨_, X, G⟩ := T.h; He.glo_ok X G (T.c.fact 37 (f := .glo "_law_owned") rfl)
theorem Tx.g__law_up (T : Tx K mg) : mg "_law_up" = some (.ref (He.ga K "_law_up")) := let ⟨_, X, G⟩ := T.h; He.glo_ok X G (T.c.fact 38 (f := .glo "_law_up") rfl)
theorem Tx.g__law_moves (T : Tx K mg) : mg "_law_moves" = some (.ref (He.ga K "_law_moves")) := let ⟨_, X, G⟩ := T.h; He.glo_ok X G (T.c.fact 39 (f := .glo "_law_moves") rfl)
theorem Tx.g__law_told (T : Tx K mg) : mg "_law_told" = some (.ref (He.ga K "_law_told")) := let ⟨_, X, G⟩ := T.h; He.glo_ok X G (T.c.fact 40 (f := .glo "_law_told") rfl)
theorem Tx.g__law_next_told (T : Tx K mg) : mg "_law_next_told" = some (.ref (He.ga K "_law_next_told")) := let ⟨_, X, G⟩ := T.h; He.glo_ok X G (T.c.fact 41 (f := .glo "_law_next_told") rfl)
theorem Tx.g_law (T : Tx K mg) : mg "law" = some (.ref (He.ga K "law")) := let ⟨_, X, G⟩ := T.h; He.glo_ok X G (T.c.fact 42 (f := .glo "law") rfl)
theorem Tx.n_len (T : Tx K mg) : mg "len" = none := let ⟨_, X, G⟩ := T.h; He.free_ok X G (T.c.fact 43 (f := .free "len") rfl)
theorem Tx.n_int (T : Tx K mg) : mg "int" = none := let ⟨_, X, G⟩ := T.h; He.free_ok X G (T.c.fact 44 (f := .free "int") rfl)
theorem Tx.n_isinstance (T : Tx K mg) : mg "isinstance" = none := let ⟨_, X, G⟩ := T.h; He.free_ok X G (T.c.fact 45 (f := .free "isinstance") rfl)
theorem Tx.n_min (T : Tx K mg) : mg "min" = none := let ⟨_, X, G⟩ := T.h; He.free_ok X G (T.c.fact 46 (f := .free "min") rfl)
theorem Tx.n_max (T : Tx K mg) : mg "max" = none := let ⟨_, X, G⟩ := T.h; He.free_ok X G (T.c.fact 47 (f := .free "max") rfl)
theorem Tx.n_range (T : Tx K mg) : mg "range" = none := let ⟨_, X, G⟩ := T.h; He.free_ok X G (T.c.fact 48 (f := .free "range") rfl)
theorem Tx.n_tuple (T : Tx K mg) : mg "tuple" = none := let ⟨_, X, G⟩ := T.h; He.free_ok X G (T.c.fact 49 (f := .free "tuple") rfl)
theorem Tx.n_sorted (T : Tx K mg) : mg "sorted" = none := let ⟨_, X, G⟩ := T.h; He.free_ok X G (T.c.fact 50 (f := .free "sorted") rfl)
theorem Tx.n_zip (T : Tx K mg) : mg "zip" = none := let ⟨_, X, G⟩ := T.h; He.free_ok X G (T.c.fact 51 (f := .free "zip") rfl)
theorem Tx.n_all (T : Tx K mg) : mg "all" = none := let ⟨_, X, G⟩ := T.h; He.free_ok X G (T.c.fact 52 (f := .free "all") rfl)
theorem Tx.n_str (T : Tx K mg) : mg "str" = none := let ⟨_, X, G⟩ := T.h; He.free_ok X G (T.c.fact 53 (f := .free "str") rfl)
theorem Tx.n_list (T : Tx K mg) : mg "list" = none := let ⟨_, X, G⟩ := T.h; He.free_ok X G (T.c.fact 54 (f := .free "list") rfl)
theorem Tx.n_dict (T : Tx K mg) : mg "dict" = none := let ⟨_, X, G⟩ := T.h; He.free_ok X G (T.c.fact 55 (f := .free "dict") rfl)
theorem Tx.n_abs (T : Tx K mg) : mg "abs" = none := let ⟨_, X, G⟩ := T.h; He.free_ok X G (T.c.fact 56 (f := .free "abs") rfl)
theorem Tx.n_bool (T : Tx K mg) : mg "bool" = none := let ⟨_, X, G⟩ := T.h; He.free_ok X G (T.c.fact 57 (f := .free "bool") rfl)
theorem Tx.n_ValueError (T : Tx K mg) : mg "ValueError" = none := let ⟨_, X, G⟩ := T.h; He.free_ok X G (T.c.fact 58 (f := .free "ValueError") rfl)
theorem Tx.k_LEAST_SERVERS (T : Tx K mg) : ∃ u, mg "LEAST_SERVERS" = some u ∧ RelV (.int 2) u := let ⟨_, X, G⟩ := T.h; let ⟨t, e⟩ := He.int_ok X G (T.c.fact 59 (f := .int "LEAST_SERVERS" 2) rfl); ⟨_, e, t, rfl⟩
theorem Tx.k_MOST_SERVERS (T : Tx K mg) : ∃ u, mg "MOST_SERVERS" = some u ∧ RelV (.int 60) u := let ⟨_, X, G⟩ := T.h; let ⟨t, e⟩ := He.int_ok X G (T.c.fact 60 (f := .int "MOST_SERVERS" 60) rfl); ⟨_, e, t, rfl⟩
theorem Tx.k_MOST_DIGITS (T : Tx K mg) : ∃ u, mg "MOST_DIGITS" = some u ∧ RelV (.int 40) u := let ⟨_, X, G⟩ := T.h; let ⟨t, e⟩ := He.int_ok X G (T.c.fact 61 (f := .int "MOST_DIGITS" 40) rfl); ⟨_, e, t, rfl⟩
theorem Tx.k_DIGITS (T : Tx K mg) : ∃ u, mg "DIGITS" = some u ∧ RelV (.str "0123456789") u := let ⟨_, X, G⟩ := T.h; let ⟨t, e⟩ := He.str_ok X G (T.c.fact 62 (f := .str "DIGITS" "0123456789") rfl); ⟨_, e, t, rfl⟩
theorem Tx.g_Cluster (T : Tx K mg) : mg "Cluster" = some (.ref (He.ga K "Cluster")) := let ⟨_, X, G⟩ := T.h; He.glo_ok X G (T.c.fact 63 (f := .glo "Cluster") rfl)
theorem Tx.cl (T : Tx K mg) : Cls K (Cc K) := He.cls_ok (T.c.fact 64 (f := .cls "Cluster") rfl)
theorem Tx.mkC (T : Tx K mg) : Mk K (Cc K) (He.ma K (Cc K) "__init__") := He.mkr_ok (T.c.fact 65 (f := .mkr "Cluster") rfl)
theorem Tx.a_depth (T : Tx K mg) : NoAttr K (Cc K) "depth" := He.noat_ok (T.c.fact 66 (f := .noat "Cluster" "depth") rfl)
theorem Tx.a_n (T : Tx K mg) : NoAttr K (Cc K) "n" := He.noat_ok (T.c.fact 67 (f := .noat "Cluster" "n") rfl)
theorem Tx.a_failures (T : Tx K mg) : NoAttr K (Cc K) "failures" := He.noat_ok (T.c.fact 68 (f := .noat "Cluster" "failures") rfl)
theorem Tx.a_factor (T : Tx K mg) : NoAttr K (Cc K) "factor" := He.noat_ok (T.c.fact 69 (f := .noat "Cluster" "factor") rfl)
theorem Tx.a_count (T : Tx K mg) : NoAttr K (Cc K) "count" := He.noat_ok (T.c.fact 70 (f := .noat "Cluster" "count") rfl)
theorem Tx.a_dead (T : Tx K mg) : NoAttr K (Cc K) "dead" := He.noat_ok (T.c.fact 71 (f := .noat "Cluster" "dead") rfl)
theorem Tx.a_done (T : Tx K mg) : NoAttr K (Cc K) "done" := He.noat_ok (T.c.fact 72 (f := .noat "Cluster" "done") rfl)
theorem Tx.m_eq (T : Tx K mg) : Meth K (Cc K) "__eq__" (He.ma K (Cc K) "__eq__") := He.meth_ok (T.c.fact 73 (f := .meth "Cluster" "__eq__") rfl)
theorem Tx.m_len (T : Tx K mg) : Meth K (Cc K) "__len__" (He.ma K (Cc K) "__len__") := He.meth_ok (T.c.fact 74 (f := .meth "Cluster" "__len__") rfl)
theorem Tx.m_live (T : Tx K mg) : Meth K (Cc K) "live" (He.ma K (Cc K) "live") := He.meth_ok (T.c.fact 75 (f := .meth "Cluster" "live") rfl)
theorem Tx.m_is_live (T : Tx K mg) : Meth K (Cc K) "is_live" (He.ma K (Cc K) "is_live") := He.meth_ok (T.c.fact 76 (f := .meth "Cluster" "is_live") rfl)
theorem Tx.m_order_of (T : Tx K mg) : Meth K (Cc K) "order_of" (He.ma K (Cc K) "order_of") := He.meth_ok (T.c.fact 77 (f := .meth "Cluster" "order_of") rfl)
theorem Tx.m_owners (T : Tx K mg) : Meth K (Cc K) "owners" (He.ma K (Cc K) "owners") := He.meth_ok (T.c.fact 78 (f := .meth "Cluster" "owners") rfl)
theorem Tx.m_load (T : Tx K mg) : Meth K (Cc K) "load" (He.ma K (Cc K) "load") := He.meth_ok (T.c.fact 79 (f := .meth "Cluster" "load") rfl)
theorem Tx.m_check_failure (T : Tx K mg) : Meth K (Cc K) "check_failure" (He.ma K (Cc K) "check_failure") := He.meth_ok (T.c.fact 80 (f := .meth "Cluster" "check_failure") rfl)
theorem Tx.m_successor (T : Tx K mg) : Meth K (Cc K) "successor" (He.ma K (Cc K) "successor") := He.meth_ok (T.c.fact 81 (f := .meth "Cluster" "successor") rfl)
theorem Tx.m_fail (T : Tx K mg) : Meth K (Cc K) "fail" (He.ma K (Cc K) "fail") := He.meth_ok (T.c.fact 82 (f := .meth "Cluster" "fail") rfl)
theorem Tx.m_recover (T : Tx K mg) : Meth K (Cc K) "recover" (He.ma K (Cc K) "recover") := He.meth_ok (T.c.fact 83 (f := .meth "Cluster" "recover") rfl)
theorem Tx.m_changes (T : Tx K mg) : Meth K (Cc K) "changes" (He.ma K (Cc K) "changes") := He.meth_ok (T.c.fact 84 (f := .meth "Cluster" "changes") rfl)
theorem Tx.m_undo (T : Tx K mg) : Meth K (Cc K) "undo" (He.ma K (Cc K) "undo") := He.meth_ok (T.c.fact 85 (f := .meth "Cluster" "undo") rfl)
theorem Tx.m_copy (T : Tx K mg) : Meth K (Cc K) "copy" (He.ma K (Cc K) "copy") := He.meth_ok (T.c.fact 86 (f := .meth "Cluster" "copy") rfl)
theorem Tx.f_is_integer_numbers (T : Tx K mg) : ∃ fd, FunD K "is_integer" "is_integer" (defArgs s_is_integer_numbers) (defBody s_is_integer_numbers) (defScope s_is_integer_numbers) [] [] (He.ga K "is_integer_numbers") fd := T.c.def_ 0 (d := d_is_integer_numbers) rfl
theorem Tx.f_binomial (T : Tx K mg) : ∃ fd, FunD K "binomial" "binomial" (defArgs s_binomial) (defBody s_binomial) (defScope s_binomial) [] [] (He.ga K "binomial") fd := T.c.def_ 1 (d := d_binomial) rfl
theorem Tx.f_edge_divisor (T : Tx K mg) : ∃ fd, FunD K "edge_divisor" "edge_divisor" (defArgs s_edge_divisor) (defBody s_edge_divisor) (defScope s_edge_divisor) [] [] (He.ga K "edge_divisor") fd := T.c.def_ 2 (d := d_edge_divisor) rfl
theorem Tx.f_common_divisor (T : Tx K mg) : ∃ fd, FunD K "common_divisor" "common_divisor" (defArgs s_common_divisor) (defBody s_common_divisor) (defScope s_common_divisor) [] [] (He.ga K "common_divisor") fd := T.c.def_ 3 (d := d_common_divisor) rfl
theorem Tx.f_common_multiple (T : Tx K mg) : ∃ fd, FunD K "common_multiple" "common_multiple" (defArgs s_common_multiple) (defBody s_common_multiple) (defScope s_common_multiple) [] [] (He.ga K "common_multiple") fd := T.c.def_ 4 (d := d_common_multiple) rfl
theorem Tx.f_least_lists (T : Tx K mg) : ∃ fd, FunD K "least_lists" "least_lists" (defArgs s_least_lists) (defBody s_least_lists) (defScope s_least_lists) [] [] (He.ga K "least_lists") fd := T.c.def_ 5 (d := d_least_lists) rfl
theorem Tx.f_is_possible (T : Tx K mg) : ∃ fd, FunD K "is_possible" "is_possible" (defArgs s_is_possible) (defBody s_is_possible) (defScope s_is_possible) [] [] (He.ga K "is_possible") fd := T.c.def_ 6 (d := d_is_possible) rfl
theorem Tx.f_outside (T : Tx K mg) : ∃ fd, FunD K "outside" "outside" (defArgs s_outside) (defBody s_outside) (defScope s_outside) [] [] (He.ga K "outside") fd := T.c.def_ 7 (d := d_outside) rfl
theorem Tx.f_with_server (T : Tx K mg) : ∃ fd, FunD K "with_server" "with_server" (defArgs s_with_server) (defBody s_with_server) (defScope s_with_server) [] [] (He.ga K "with_server") fd := T.c.def_ 8 (d := d_with_server) rfl
theorem Tx.f_look_at_count (T : Tx K mg) : ∃ fd, FunD K "look_at_count" "look_at_count" (defArgs s_look_at_count) (defBody s_look_at_count) (defScope s_look_at_count) [] [] (He.ga K "look_at_count") fd := T.c.def_ 9 (d := d_look_at_count) rfl
theorem Tx.f_next_place (T : Tx K mg) : ∃ fd, FunD K "next_place" "next_place" (defArgs s_next_place) (defBody s_next_place) (defScope s_next_place) [] [] (He.ga K "next_place") fd := T.c.def_ 10 (d := d_next_place) rfl
theorem Tx.f_walk (T : Tx K mg) : ∃ fd, FunD K "walk" "walk" (defArgs s_walk) (defBody s_walk) (defScope s_walk) [] [] (He.ga K "walk") fd := T.c.def_ 11 (d := d_walk) rfl
theorem Tx.f_list_at (T : Tx K mg) : ∃ fd, FunD K "list_at" "list_at" (defArgs s_list_at) (defBody s_list_at) (defScope s_list_at) [] [] (He.ga K "list_at") fd := T.c.def_ 12 (d := d_list_at) rfl
theorem Tx.f_holders (T : Tx K mg) : ∃ fd, FunD K "holders" "holders" (defArgs s_holders) (defBody s_holders) (defScope s_holders) [] [] (He.ga K "holders") fd := T.c.def_ 13 (d := d_holders) rfl
theorem Tx.f_live_in (T : Tx K mg) : ∃ fd, FunD K "live_in" "live_in" (defArgs s_live_in) (defBody s_live_in) (defScope s_live_in) [] [] (He.ga K "live_in") fd := T.c.def_ 14 (d := d_live_in) rfl
theorem Tx.f_successor_failures (T : Tx K mg) : ∃ fd, FunD K "successor" "successor" (defArgs s_successor_failures) (defBody s_successor_failures) (defScope s_successor_failures) [] [] (He.ga K "successor_failures") fd := T.c.def_ 15 (d := d_successor_failures) rfl
theorem Tx.f_is_integer_cluster (T : Tx K mg) : ∃ fd, FunD K "is_integer" "is_integer" (defArgs s_is_integer_cluster) (defBody s_is_integer_cluster) (defScope s_is_integer_cluster) [] [] (He.ga K "is_integer_cluster") fd := T.c.def_ 16 (d := d_is_integer_cluster) rfl
theorem Tx.f_C_init (T : Tx K mg) : ∃ fd, FunD K "__init__" "Cluster.__init__" (defArgs s_C_init) (defBody s_C_init) (defScope s_C_init) [] [] (He.ma K (Cc K) "__init__") fd := T.c.def_ 17 (d := d_C_init) rfl
theorem Tx.f_C_eq (T : Tx K mg) : ∃ fd, FunD K "__eq__" "Cluster.__eq__" (defArgs s_C_eq) (defBody s_C_eq) (defScope s_C_eq) [] [] (He.ma K (Cc K) "__eq__") fd := T.c.def_ 18 (d := d_C_eq) rfl
theorem Tx.f_C_len (T : Tx K mg) : ∃ fd, FunD K "__len__" "Cluster.__len__" (defArgs s_C_len) (defBody s_C_len) (defScope s_C_len) [] [] (He.ma K (Cc K) "__len__") fd := T.c.def_ 19 (d := d_C_len) rfl
theorem Tx.f_C_live (T : Tx K mg) : ∃ fd, FunD K "live" "Cluster.live" (defArgs s_C_live) (defBody s_C_live) (defScope s_C_live) [] [] (He.ma K (Cc K) "live") fd := T.c.def_ 20 (d := d_C_live) rfl
theorem Tx.f_C_is_live (T : Tx K mg) : ∃ fd, FunD K "is_live" "Cluster.is_live" (defArgs s_C_is_live) (defBody s_C_is_live) (defScope s_C_is_live) [] [] (He.ma K (Cc K) "is_live") fd := T.c.def_ 21 (d := d_C_is_live) rfl
theorem Tx.f_C_order_of (T : Tx K mg) : ∃ fd, FunD K "order_of" "Cluster.order_of" (defArgs s_C_order_of) (defBody s_C_order_of) (defScope s_C_order_of) [] [] (He.ma K (Cc K) "order_of") fd := T.c.def_ 22 (d := d_C_order_of) rfl
theorem Tx.f_C_owners (T : Tx K mg) : ∃ fd, FunD K "owners" "Cluster.owners" (defArgs s_C_owners) (defBody s_C_owners) (defScope s_C_owners) [] [] (He.ma K (Cc K) "owners") fd := T.c.def_ 23 (d := d_C_owners) rfl
theorem Tx.f_C_load (T : Tx K mg) : ∃ fd, FunD K "load" "Cluster.load" (defArgs s_C_load) (defBody s_C_load) (defScope s_C_load) [] [] (He.ma K (Cc K) "load") fd := T.c.def_ 24 (d := d_C_load) rfl
theorem Tx.f_C_check_failure (T : Tx K mg) : ∃ fd, FunD K "check_failure" "Cluster.check_failure" (defArgs s_C_check_failure) (defBody s_C_check_failure) (defScope s_C_check_failure) [] [] (He.ma K (Cc K) "check_failure") fd := T.c.def_ 25 (d := d_C_check_failure) rfl
theorem Tx.f_C_successor (T : Tx K mg) : ∃ fd, FunD K "successor" "Cluster.successor" (defArgs s_C_successor) (defBody s_C_successor) (defScope s_C_successor) [] [] (He.ma K (Cc K) "successor") fd := T.c.def_ 26 (d := d_C_successor) rfl
theorem Tx.f_C_fail (T : Tx K mg) : ∃ fd, FunD K "fail" "Cluster.fail" (defArgs s_C_fail) (defBody s_C_fail) (defScope s_C_fail) [] [] (He.ma K (Cc K) "fail") fd := T.c.def_ 27 (d := d_C_fail) rfl
theorem Tx.f_C_recover (T : Tx K mg) : ∃ fd, FunD K "recover" "Cluster.recover" (defArgs s_C_recover) (defBody s_C_recover) (defScope s_C_recover) [] [] (He.ma K (Cc K) "recover") fd := T.c.def_ 28 (d := d_C_recover) rfl
theorem Tx.f_C_changes (T : Tx K mg) : ∃ fd, FunD K "changes" "Cluster.changes" (defArgs s_C_changes) (defBody s_C_changes) (defScope s_C_changes) [] [] (He.ma K (Cc K) "changes") fd := T.c.def_ 29 (d := d_C_changes) rfl
theorem Tx.f_C_undo (T : Tx K mg) : ∃ fd, FunD K "undo" "Cluster.undo" (defArgs s_C_undo) (defBody s_C_undo) (defScope s_C_undo) [] [] (He.ma K (Cc K) "undo") fd := T.c.def_ 30 (d := d_C_undo) rfl
theorem Tx.f_C_copy (T : Tx K mg) : ∃ fd, FunD K "copy" "Cluster.copy" (defArgs s_C_copy) (defBody s_C_copy) (defScope s_C_copy) [] [] (He.ma K (Cc K) "copy") fd := T.c.def_ 31 (d := d_C_copy) rfl
theorem Tx.f_integer_of (T : Tx K mg) : ∃ fd, FunD K "integer_of" "integer_of" (defArgs s_integer_of) (defBody s_integer_of) (defScope s_integer_of) [] [] (He.ga K "integer_of") fd := T.c.def_ 32 (d := d_integer_of) rfl
theorem Tx.f_integers_of (T : Tx K mg) : ∃ fd, FunD K "integers_of" "integers_of" (defArgs s_integers_of) (defBody s_integers_of) (defScope s_integers_of) [] [] (He.ga K "integers_of") fd := T.c.def_ 33 (d := d_integers_of) rfl
theorem Tx.f_blanks (T : Tx K mg) : ∃ fd, FunD K "blanks" "blanks" (defArgs s_blanks) (defBody s_blanks) (defScope s_blanks) [] [] (He.ga K "blanks") fd := T.c.def_ 34 (d := d_blanks) rfl
theorem Tx.f_rows_of (T : Tx K mg) : ∃ fd, FunD K "rows_of" "rows_of" (defArgs s_rows_of) (defBody s_rows_of) (defScope s_rows_of) [] [] (He.ga K "rows_of") fd := T.c.def_ 35 (d := d_rows_of) rfl
theorem Tx.f_head_of (T : Tx K mg) : ∃ fd, FunD K "head_of" "head_of" (defArgs s_head_of) (defBody s_head_of) (defScope s_head_of) [] [] (He.ga K "head_of") fd := T.c.def_ 36 (d := d_head_of) rfl
theorem Tx.f_show_cluster (T : Tx K mg) : ∃ fd, FunD K "show_cluster" "show_cluster" (defArgs s_show_cluster) (defBody s_show_cluster) (defScope s_show_cluster) [] [] (He.ga K "show_cluster") fd := T.c.def_ 37 (d := d_show_cluster) rfl
theorem Tx.f_dead_of (T : Tx K mg) : ∃ fd, FunD K "dead_of" "dead_of" (defArgs s_dead_of) (defBody s_dead_of) (defScope s_dead_of) [] [] (He.ga K "dead_of") fd := T.c.def_ 38 (d := d_dead_of) rfl
theorem Tx.f_begun (T : Tx K mg) : ∃ fd, FunD K "begun" "begun" (defArgs s_begun) (defBody s_begun) (defScope s_begun) [] [] (He.ga K "begun") fd := T.c.def_ 39 (d := d_begun) rfl
theorem Tx.f_read_cluster (T : Tx K mg) : ∃ fd, FunD K "read_cluster" "read_cluster" (defArgs s_read_cluster) (defBody s_read_cluster) (defScope s_read_cluster) [] [] (He.ga K "read_cluster") fd := T.c.def_ 40 (d := d_read_cluster) rfl
theorem Tx.f__law_stream (T : Tx K mg) : ∃ fd, FunD K "_law_stream" "_law_stream" (defArgs s__law_stream) (defBody s__law_stream) (defScope s__law_stream) [] [] (He.ga K "_law_stream") fd := T.c.def_ 41 (d := d__law_stream) rfl
theorem Tx.f__law_draw (T : Tx K mg) : ∃ fd, FunD K "_law_draw" "_law_draw" (defArgs s__law_draw) (defBody s__law_draw) (defScope s__law_draw) [] [] (He.ga K "_law_draw") fd := T.c.def_ 42 (d := d__law_draw) rfl
theorem Tx.f__law_pick (T : Tx K mg) : ∃ fd, FunD K "_law_pick" "_law_pick" (defArgs s__law_pick) (defBody s__law_pick) (defScope s__law_pick) [] [] (He.ga K "_law_pick") fd := T.c.def_ 43 (d := d__law_pick) rfl
theorem Tx.f__law_shuffled (T : Tx K mg) : ∃ fd, FunD K "_law_shuffled" "_law_shuffled" (defArgs s__law_shuffled) (defBody s__law_shuffled) (defScope s__law_shuffled) [] [] (He.ga K "_law_shuffled") fd := T.c.def_ 44 (d := d__law_shuffled) rfl
theorem Tx.f__law_alive (T : Tx K mg) : ∃ fd, FunD K "_law_alive" "_law_alive" (defArgs s__law_alive) (defBody s__law_alive) (defScope s__law_alive) [] [] (He.ga K "_law_alive") fd := T.c.def_ 45 (d := d__law_alive) rfl
theorem Tx.f__law_comb (T : Tx K mg) : ∃ fd, FunD K "_law_comb" "_law_comb" (defArgs s__law_comb) (defBody s__law_comb) (defScope s__law_comb) [] [] (He.ga K "_law_comb") fd := T.c.def_ 46 (d := d__law_comb) rfl
theorem Tx.f__law_order (T : Tx K mg) : ∃ fd, FunD K "_law_order" "_law_order" (defArgs s__law_order) (defBody s__law_order) (defScope s__law_order) [] [] (He.ga K "_law_order") fd := T.c.def_ 47 (d := d__law_order) rfl
theorem Tx.f__law_gcd (T : Tx K mg) : ∃ fd, FunD K "_law_gcd" "_law_gcd" (defArgs s__law_gcd) (defBody s__law_gcd) (defScope s__law_gcd) [] [] (He.ga K "_law_gcd") fd := T.c.def_ 48 (d := d__law_gcd) rfl
theorem Tx.f__law_least (T : Tx K mg) : ∃ fd, FunD K "_law_least" "_law_least" (defArgs s__law_least) (defBody s__law_least) (defScope s__law_least) [] [] (He.ga K "_law_least") fd := T.c.def_ 49 (d := d__law_least) rfl
theorem Tx.f__law_sizes (T : Tx K mg) : ∃ fd, FunD K "_law_sizes" "_law_sizes" (defArgs s__law_sizes) (defBody s__law_sizes) (defScope s__law_sizes) [] [] (He.ga K "_law_sizes") fd := T.c.def_ 50 (d := d__law_sizes) rfl
theorem Tx.f__law_orders (T : Tx K mg) : ∃ fd, FunD K "_law_orders" "_law_orders" (defArgs s__law_orders) (defBody s__law_orders) (defScope s__law_orders) [] [] (He.ga K "_law_orders") fd := T.c.def_ 51 (d := d__law_orders) rfl
theorem Tx.f__law_owned (T : Tx K mg) : ∃ fd, FunD K "_law_owned" "_law_owned" (defArgs s__law_owned) (defBody s__law_owned) (defScope s__law_owned) [] [] (He.ga K "_law_owned") fd := T.c.def_ 52 (d := d__law_owned) rfl
theorem Tx.f__law_up (T : Tx K mg) : ∃ fd, FunD K "_law_up" "_law_up" (defArgs s__law_up) (defBody s__law_up) (defScope s__law_up) [] [] (He.ga K "_law_up") fd := T.c.def_ 53 (d := d__law_up) rfl
theorem Tx.f__law_moves (T : Tx K mg) : ∃ fd, FunD K "_law_moves" "_law_moves" (defArgs s__law_moves) (defBody s__law_moves) (defScope s__law_moves) [] [] (He.ga K "_law_moves") fd := T.c.def_ 54 (d := d__law_moves) rfl
theorem Tx.f__law_told (T : Tx K mg) : ∃ fd, FunD K "_law_told" "_law_told" (defArgs s__law_told) (defBody s__law_told) (defScope s__law_told) [] [] (He.ga K "_law_told") fd := T.c.def_ 55 (d := d__law_told) rfl
theorem Tx.f__law_next_told (T : Tx K mg) : ∃ fd, FunD K "_law_next_told" "_law_next_told" (defArgs s__law_next_told) (defBody s__law_next_told) (defScope s__law_next_told) [] [] (He.ga K "_law_next_told") fd := T.c.def_ 56 (d := d__law_next_told) rfl
theorem Tx.f_law (T : Tx K mg) : ∃ fd, FunD K "law" "law" (defArgs s_law) (defBody s_law) (defScope s_law) [] [] (He.ga K "law") fd := T.c.def_ 57 (d := d_law) rfl
theorem exB_ok (h : exB K = true) : C8.InsC K (Cc K) → True := fun _ => trivial
theorem Tx.ins (T : Tx K mg) : C8.InsC K (Cc K) := by
  have x := T.x
  unfold exB at x
  obtain ⟨h1, x⟩ := He.ba x
  obtain ⟨h2, x⟩ := He.ba x
  obtain ⟨h3, x⟩ := He.ba x
  obtain ⟨h4, x⟩ := He.ba x
  obtain ⟨h5, _⟩ := He.ba x
  exact ⟨T.cl, He.eqO_ok h1, He.eqO_ok h2, of_decide_eq_true h3, of_decide_eq_true h4, of_decide_eq_true h5⟩
theorem Tx.digits (T : Tx K mg) : PySem.W.nsIn K cStatics "sys.int_max_str_digits" = some none := by
  have x := T.x
  unfold exB at x
  exact He.eqO_ok (He.ba (He.ba (He.ba (He.ba (He.ba x).2).2).2).2).2
end
section
variable {P : Program} {w : World} {K : PySem.W.Frag} {mg : Str → Option Value} {base : Heap}
abbrev BodyOk (P : Program) (w : World) (K : PySem.W.Frag) (mg : Str → Option Value) (base : Heap) (qual : Str) (bd : List Stmt) (sc : Scope) (f : Addr) (N : List Str) (k : Nat) (sp : Sp) : Prop :=
  ∀ (cdv : Value) (A : Around) (outer : List Env) (s : Shared) (H : Hp) (vs : List V) (Q : VK) (E : XK), Room k (A.deeper (envOfC qual sc s.heap.objs.size f cdv)) → sp vs H Q E →
    ∃ t, PSs (cxOf C8.CX0 P w K mg base N qual sc f cdv A outer s H E).nox bd t ∧ t { nx := fun _ H' => Q .non H', rt := Q } (start N vs) H
abbrev BindOk (nm qual : Str) (pr : Arguments) (bd : List Stmt) (sc : Scope) (ps : List Str) : Prop :=
  ∀ (kV doc pm : Value) (an : Option Addr) (cdv ct : Value) (us : List Value), us.length = ps.length → bindArgs (PySem.W.fnOf nm qual pr bd sc .none kV doc pm an cdv ct) ⟨us, []⟩ = pure (ps.zip us)
theorem okD {nm qual : Str} {pr : Arguments} {bd : List Stmt} {sc : Scope} {f : Addr} {N ps : List Str} {k : Nat} {sp : Sp} (F : ∃ fd, FunD K nm qual pr bd sc [] [] f fd) (hb : BindOk nm qual pr bd sc ps) (S : FnScope N ps sc)
    (len : ∀ vs H Q E, sp vs H Q E → vs.length = ps.length) (body : BodyOk P w K mg base qual bd sc f N k sp) : ∃ fd, FnOk P w K mg base C8.CX0 (k + 1) f fd ps sp ∧ Binds K fd ps [] ∧ PySem.W.keepIn K (.ref f) = true := by
  obtain ⟨fd, F⟩ := F
  refine ⟨fd, F.ok S len fun cdv A outer s H vs Q E hr hsp => ?_, F.bindsN hb, F.kp⟩
  obtain ⟨t, h, q⟩ := body cdv A outer s H vs Q E hr hsp
  exact ⟨t, h.nox, q⟩
theorem calD {x nm qual : Str} {pr : Arguments} {bd : List Stmt} {sc : Scope} {f : Addr} {N ps : List Str} {k : Nat} {sp : Sp} (hm : mg x = some (.ref f)) (F : ∃ fd, FunD K nm qual pr bd sc [] [] f fd) (hb : BindOk nm qual pr bd sc ps) (S : FnScope N ps sc)
    (len : ∀ vs H Q E, sp vs H Q E → vs.length = ps.length) (body : BodyOk P w K mg base qual bd sc f N k sp) : C8.Cal P w K mg base (k + 1) x sp [] :=
  let ⟨fd, h, b, kp⟩ := okD F hb S len body
  ⟨f, fd, ps, [], h, hm, kp, b, .nil⟩
theorem metD {m nm qual : Str} {C : Addr} {pr : Arguments} {bd : List Stmt} {sc : Scope} {f : Addr} {N ps : List Str} {k : Nat} {sp : Sp} (c : Cls K C) (hm : Meth K C m f) (F : ∃ fd, FunD K nm qual pr bd sc [] [] f fd) (hb : BindOk nm qual pr bd sc ps) (S : FnScope N ps sc)
    (len : ∀ vs H Q E, sp vs H Q E → vs.length = ps.length) (body : BodyOk P w K mg base qual bd sc f N k sp) : C8.Met P w K mg base (k + 1) C m sp [] :=
  let ⟨fd, h, b, _⟩ := okD F hb S len body
  ⟨f, fd, ps, [], c, hm, h, b, .nil⟩
theorem makD {x nm qual : Str} {C : Addr} {pr : Arguments} {bd : List Stmt} {sc : Scope} {f : Addr} {N ps : List Str} {k : Nat} {sp : Sp} (M : Mk K C f) (hm : mg x = some (.ref C)) (F : ∃ fd, FunD K nm qual pr bd sc [] [] f fd) (hb : BindOk nm qual pr bd sc ps) (S : FnScope N ps sc)
    (len : ∀ vs H Q E, sp vs H Q E → vs.length = ps.length) (body : BodyOk P w K mg base qual bd sc f N k sp) : C8.Mak P w K mg base (k + 1) x C sp [] :=
  let ⟨fd, h, b, _⟩ := okD F hb S len body
  ⟨f, fd, ps, [], M, h, hm, b, .nil⟩
end
/-! promises by the number of arguments -/
def sp1 (f : V → Hp → VK → Prop) : Sp := fun vs H Q _ => ∃ x, vs = [x] ∧ f x H Q
def sp2 (f : V → V → Hp → VK → Prop) : Sp := fun vs H Q _ => ∃ x y, vs = [x, y] ∧ f x y H Q
def sp3 (f : V → V → V → Hp → VK → Prop) : Sp := fun vs H Q _ => ∃ x y z, vs = [x, y, z] ∧ f x y z H Q
def sp4 (f : V → V → V → V → Hp → VK → Prop) : Sp := fun vs H Q _ => ∃ x y z u, vs = [x, y, z, u] ∧ f x y z u H Q
def sp5 (f : V → V → V → V → V → Hp → VK → Prop) : Sp := fun vs H Q _ => ∃ x y z u t, vs = [x, y, z, u, t] ∧ f x y z u t H Q
theorem len1 {f : V → Hp → VK → Prop} : ∀ vs H Q E, sp1 f vs H Q E → vs.length = 1 := fun _ _ _ _ ⟨_, e, _⟩ => by rw [e]; rfl
theorem len2 {f : V → V → Hp → VK → Prop} : ∀ vs H Q E, sp2 f vs H Q E → vs.length = 2 := fun _ _ _ _ ⟨_, _, e, _⟩ => by rw [e]; rfl
theorem len3 {f : V → V → V → Hp → VK → Prop} : ∀ vs H Q E, sp3 f vs H Q E → vs.length = 3 := fun _ _ _ _ ⟨_, _, _, e, _⟩ => by rw [e]; rfl
theorem len4 {f : V → V → V → V → Hp → VK → Prop} : ∀ vs H Q E, sp4 f vs H Q E → vs.length = 4 := fun _ _ _ _ ⟨_, _, _, _, e, _⟩ => by rw [e]; rfl
theorem len5 {f : V → V → V → V → V → Hp → VK → Prop} : ∀ vs H Q E, sp5 f vs H Q E → vs.length = 5 := fun _ _ _ _ ⟨_, _, _, _, _, e, _⟩ => by rw [e]; rfl
end EF
/-! The mathematics: no program here. -/
namespace EF
/-! ### binomials -/
def cho : Nat → Nat → Nat
  | _, 0 => 1
  | 0, _ + 1 => 0
  | n + 1, k + 1 => cho n k + cho n (k + 1)
def chI (n k : Int) : Int := (cho n.toNat k.toNat : Nat)
theorem cho_step : ∀ n : Nat, n < 7 → ∀ i : Nat, i < n → cho n i * (n - i) / (i + 1) = cho n (i + 1) := by decide
theorem cho_sym : ∀ n : Nat, n < 7 → ∀ k : Nat, k < n + 1 → cho n (min k (n - k)) = cho n k := by decide
theorem cho_big : ∀ n : Nat, n < 7 → ∀ k : Nat, k < 7 → n < k → cho n k = 0 := by decide
theorem cho_lt : ∀ n : Nat, n < 7 → ∀ k : Nat, k < 7 → cho n k < 21 := by decide
theorem cho_pos : ∀ n : Nat, n < 7 → ∀ k : Nat, k < n + 1 → 0 < cho n k := by decide
/-- how many level numbers a level has -/
def edg (n b : Nat) : Nat := n * cho (n - 1) b
theorem edg_pos : ∀ n : Nat, n < 7 → 0 < n → ∀ b : Nat, b < n → 0 < edg n b ∧ edg n b ≤ 60 := by decide
/-! ### gcd, lcm -/
def lcms (l : List Nat) : Nat := l.foldl (fun f x => f / Nat.gcd f x * x) 1
def edgs (n d : Nat) : List Nat := (List.range d).map (edg n)
def least (n d : Nat) : Nat := lcms (edgs n d)
theorem least_pos : ∀ n : Nat, n < 7 → 0 < n → ∀ d : Nat, d < n + 1 → 0 < least n d := by decide
theorem take_snoc {α : Type} {l : List α} {i : Nat} {x : α} (h : l[i]? = some x) : l.take (i + 1) = l.take i ++ [x] := by
  rw [List.take_add_one, h]; rfl
theorem lcms_snoc {l : List Nat} {i x : Nat} (h : l[i]? = some x) : lcms (l.take (i + 1)) = lcms (l.take i) / Nat.gcd (lcms (l.take i)) x * x := by
  unfold lcms
  rw [take_snoc h, List.foldl_append]; rfl
theorem edgs_at {n d i : Nat} (h : i < d) : (edgs n d)[i]? = some (edg n i) := by
  unfold edgs
  rw [List.getElem?_map, List.getElem?_range h]; rfl
theorem edgs_len (n d : Nat) : (edgs n d).length = d := by
  unfold edgs
  rw [List.length_map, List.length_range]
end EF
namespace EF
/-! ### servers -/
def rng (n : Nat) : List Int := (List.range n).map fun i : Nat => (i : Int)
theorem mem_rng {n : Nat} {x : Int} : x ∈ rng n ↔ 0 ≤ x ∧ x < n := by
  unfold rng
  constructor
  · intro h
    obtain ⟨i, hi, rfl⟩ := List.mem_map.mp h
    have := List.mem_range.mp hi
    omega
  · rintro ⟨h1, h2⟩
    exact List.mem_map.mpr ⟨x.toNat, List.mem_range.mpr (by omega), by omega⟩
theorem rng_len (n : Nat) : (rng n).length = n := by unfold rng; rw [List.length_map, List.length_range]
theorem rng_nodup (n : Nat) : (rng n).Nodup := by
  unfold rng
  refine List.Pairwise.map _ (fun a b h => ?_) (List.nodup_range (n := n))
  intro e
  exact h (Int.ofNat.inj e)
theorem rng_at {n i : Nat} (h : i < n) : (rng n)[i]? = some (i : Int) := by
  unfold rng
  rw [List.getElem?_map, List.getElem?_range h]; rfl
theorem rng_srt (n : Nat) : (rng n).Pairwise (· < ·) := by
  unfold rng
  refine List.Pairwise.map _ (fun a b h => ?_) (List.pairwise_lt_range (n := n))
  exact Int.ofNat_lt.mpr h
/-- the servers of n that are not in ms -/
def oth (n : Nat) (ms : List Int) : List Int := (rng n).filter fun s => !decide (s ∈ ms)
theorem mem_oth {n : Nat} {ms : List Int} {x : Int} : x ∈ oth n ms ↔ (0 ≤ x ∧ x < n) ∧ x ∉ ms := by
  unfold oth
  rw [List.mem_filter, mem_rng]
  simp
theorem oth_nodup (n : Nat) (ms : List Int) : (oth n ms).Nodup := (rng_nodup n).filter _
theorem oth_srt (n : Nat) (ms : List Int) : (oth n ms).Pairwise (· < ·) := (rng_srt n).filter _
theorem oth_len {n : Nat} {ms : List Int} (nd : ms.Nodup) (sub : ∀ x ∈ ms, 0 ≤ x ∧ x < n) : (oth n ms).length + ms.length = n := by
  have p : (oth n ms ++ ms).Perm (rng n) := by
    refine (List.perm_ext_iff_of_nodup (List.nodup_append.mpr ⟨oth_nodup n ms, nd, ?_⟩) (rng_nodup n)).mpr fun a => ?_
    · intro a ha b hb e
      subst e
      exact (mem_oth.mp ha).2 hb
    · rw [List.mem_append, mem_oth, mem_rng]
      constructor
      · rintro (h | h)
        · exact h.1
        · exact sub a h
      · intro h
        by_cases c : a ∈ ms
        · exact .inr c
        · exact .inl ⟨h, c⟩
  have e := p.length_eq
  rw [List.length_append, rng_len] at e
  exact e
theorem oth_same {n : Nat} {g h : List Int} (e : ∀ x, x ∈ g ↔ x ∈ h) : oth n g = oth n h := by
  unfold oth
  congr 1
  funext s
  simp [e s]
/-! ### sorted insertion -/
def ins (s : Int) : List Int → List Int
  | [] => [s]
  | x :: r => if s ≤ x then s :: x :: r else x :: ins s r
theorem ins_perm (s : Int) : ∀ l : List Int, (ins s l).Perm (s :: l)
  | [] => List.Perm.refl _
  | x :: r => by
    unfold ins
    split
    · exact List.Perm.refl _
    · exact ((ins_perm s r).cons x).trans (List.Perm.swap s x r)
theorem ins_srt (s : Int) : ∀ {l : List Int}, l.Pairwise (· ≤ ·) → (ins s l).Pairwise (· ≤ ·)
  | [], _ => List.pairwise_singleton _ _
  | x :: r, h => by
    obtain ⟨h1, h2⟩ := List.pairwise_cons.mp h
    unfold ins
    split
    · rename_i c
      refine List.pairwise_cons.mpr ⟨fun y hy => ?_, h⟩
      rcases List.mem_cons.mp hy with rfl | hy
      · exact c
      · exact Int.le_trans c (h1 y hy)
    · rename_i c
      refine List.pairwise_cons.mpr ⟨fun y hy => ?_, ins_srt s h2⟩
      rcases List.mem_cons.mp ((ins_perm s r).mem_iff.mp hy) with rfl | hy
      · omega
      · exact h1 y hy
theorem sort_ins {s : Int} {l m : List Int} (p : m.Perm (l ++ [s])) (hm : m.Pairwise (· ≤ ·)) (hl : l.Pairwise (· ≤ ·)) : m = ins s l := by
  refine List.Perm.eq_of_pairwise (le := (· ≤ ·)) (fun a b _ _ h1 h2 => Int.le_antisymm h1 h2) hm (ins_srt s hl) (p.trans ?_)
  exact (List.perm_append_comm.trans (List.Perm.refl _)).trans (ins_perm s l).symm
/-! ### the numbers of lists that are asked -/
def wid (n t b : Nat) : Nat := t / edg n b
structure GoodT (n d t : Nat) : Prop where
  n2 : 2 ≤ n
  n6 : n ≤ 6
  d1 : 0 < d
  dn : d ≤ n
  ex : ∃ m, 0 < m ∧ m < 3 ∧ t = least n d * m
set_option synthInstance.maxSize 100000 in
set_option synthInstance.maxHeartbeats 0 in
theorem wid_all : ∀ n : Nat, n < 7 → ∀ d : Nat, d < 7 → ∀ m : Nat, m < 3 → 2 ≤ n → 0 < d → d ≤ n → 0 < m →
    (∀ b : Nat, b < d → 0 < wid n (least n d * m) b ∧ wid n (least n d * m) b ≤ 120) ∧ (∀ b : Nat, b < d → b + 1 < d → (n - (b + 1)) * wid n (least n d * m) (b + 1) = (b + 1) * wid n (least n d * m) b) ∧
      n * wid n (least n d * m) 0 = least n d * m ∧ 0 < least n d * m ∧ least n d * m ≤ 120 := by decide +kernel
section
variable {n d t : Nat}
theorem GoodT.all (g : GoodT n d t) : (∀ b : Nat, b < d → 0 < wid n t b ∧ wid n t b ≤ 120) ∧ (∀ b : Nat, b < d → b + 1 < d → (n - (b + 1)) * wid n t (b + 1) = (b + 1) * wid n t b) ∧ n * wid n t 0 = t ∧ 0 < t ∧ t ≤ 120 := by
  obtain ⟨h1, h2, h3, h4, m, m1, m2, rfl⟩ := g
  exact wid_all n (by omega) d (by omega) m m2 h1 h3 h4 m1
theorem GoodT.dvd (g : GoodT n d t) : least n d ∣ t := by
  obtain ⟨h1, h2, h3, h4, m, m1, m2, rfl⟩ := g
  exact ⟨m, rfl⟩
/-! ### one step of a list -/
def nxS (n t : Nat) (ms : List Int) (r : Nat) : Int := (oth n ms).getD (r / wid n t ms.length) 0
def nxR (n t : Nat) (ms : List Int) (r : Nat) (s : Int) : Nat := (ins s ms).idxOf s * wid n t ms.length + r % wid n t ms.length
def stt (n t k : Nat) : Nat → List Int × Nat × List Int
  | 0 => ([], k, [])
  | i + 1 => let p := stt n t k i; let s := nxS n t p.1 p.2.1; (ins s p.1, nxR n t p.1 p.2.1 s, p.2.2 ++ [s])
/-- list number k -/
def ordL (n d t k : Nat) : List Int := (stt n t k d).2.2
structure Sti (n d t i : Nat) (ms : List Int) (r : Nat) (o : List Int) : Prop where
  len : ms.length = i
  srt : ms.Pairwise (· ≤ ·)
  nd : ms.Nodup
  sub : ∀ x ∈ ms, 0 ≤ x ∧ x < n
  rest : i < d → r < (n - i) * wid n t i
  perm : o.Perm ms
theorem Sti.at (g : GoodT n d t) {i r : Nat} {ms o : List Int} (h : Sti n d t i ms r o) (hi : i < d) :
    r / wid n t i < (oth n ms).length ∧ (oth n ms)[r / wid n t i]? = some (nxS n t ms r) ∧ nxS n t ms r ∈ oth n ms := by
  have w0 := (g.all.1 i hi).1
  have hl := oth_len h.nd h.sub
  rw [h.len] at hl
  have hr := h.rest hi
  have h1 : r / wid n t i < (oth n ms).length := by
    rw [show (oth n ms).length = n - i by omega]
    exact Nat.div_lt_of_lt_mul (by rw [Nat.mul_comm]; exact hr)
  have e : (oth n ms)[r / wid n t i]? = some (nxS n t ms r) := by
    unfold nxS
    rw [h.len, List.getD_eq_getElem?_getD, List.getElem?_eq_getElem h1]; rfl
  exact ⟨h1, e, List.mem_of_getElem? e⟩
theorem Sti.next (g : GoodT n d t) {i r : Nat} {ms o : List Int} (h : Sti n d t i ms r o) (hi : i < d) :
    Sti n d t (i + 1) (ins (nxS n t ms r) ms) (nxR n t ms r (nxS n t ms r)) (o ++ [nxS n t ms r]) := by
  obtain ⟨_, _, hm⟩ := h.at g hi
  generalize hs : nxS n t ms r = s at *
  have p := ins_perm s ms
  obtain ⟨m1, m2⟩ := mem_oth.mp hm
  have hlen : (ins s ms).length = i + 1 := by rw [p.length_eq, List.length_cons, h.len]
  refine ⟨hlen, ins_srt s h.srt, p.symm.nodup (List.nodup_cons.mpr ⟨m2, h.nd⟩), fun x hx => ?_, fun hd => ?_, ?_⟩
  · rcases List.mem_cons.mp (p.mem_iff.mp hx) with rfl | hx
    · exact m1
    · exact h.sub x hx
  · have w0 := (g.all.1 i hi).1
    rw [g.all.2.1 i hi hd]
    unfold nxR
    rw [h.len]
    have hx : (ins s ms).idxOf s < i + 1 := by
      rw [← hlen]
      exact List.idxOf_lt_length_of_mem (p.mem_iff.mpr (List.mem_cons_self ..))
    have hq : r % wid n t i < wid n t i := Nat.mod_lt _ w0
    calc (ins s ms).idxOf s * wid n t i + r % wid n t i < (ins s ms).idxOf s * wid n t i + wid n t i := Nat.add_lt_add_left hq _
      _ = ((ins s ms).idxOf s + 1) * wid n t i := by rw [Nat.add_mul, Nat.one_mul]
      _ ≤ (i + 1) * wid n t i := Nat.mul_le_mul_right _ hx
  · exact (List.perm_append_comm.trans ((h.perm.cons s).trans (List.Perm.refl _))).trans p.symm
theorem stt_ok (g : GoodT n d t) {k : Nat} (hk : k < t) : ∀ i : Nat, i ≤ d → Sti n d t i (stt n t k i).1 (stt n t k i).2.1 (stt n t k i).2.2
  | 0, _ => ⟨rfl, List.Pairwise.nil, List.nodup_nil, fun x hx => (by cases hx), fun _ => (by show k < (n - 0) * wid n t 0; rw [Nat.sub_zero, g.all.2.2.1]; exact hk), List.Perm.refl _⟩
  | i + 1, hi => (stt_ok g hk i (by omega)).next g (by omega)
theorem ord_len (g : GoodT n d t) {k : Nat} (hk : k < t) : (ordL n d t k).length = d := by
  have h := stt_ok g hk d (Nat.le_refl _)
  exact h.perm.length_eq.trans h.len
theorem ord_nodup (g : GoodT n d t) {k : Nat} (hk : k < t) : (ordL n d t k).Nodup := by
  have h := stt_ok g hk d (Nat.le_refl _)
  exact h.perm.symm.nodup h.nd
theorem ord_sub (g : GoodT n d t) {k : Nat} (hk : k < t) : ∀ x ∈ ordL n d t k, 0 ≤ x ∧ x < n := fun x hx => by
  have h := stt_ok g hk d (Nat.le_refl _)
  exact h.sub x (h.perm.mem_iff.mp hx)
end
end EF
namespace EF
/-! ### who holds a shard -/
def alv (o L : List Int) : List Int := o.filter fun s => decide (s ∈ L)
theorem alv_nodup {o L : List Int} (h : o.Nodup) : (alv o L).Nodup := h.filter _
theorem mem_alv {o L : List Int} {x : Int} : x ∈ alv o L ↔ x ∈ o ∧ x ∈ L := by
  unfold alv
  rw [List.mem_filter]
  simp
theorem alv_le {o L : List Int} (h : o.Nodup) : (alv o L).length ≤ L.length :=
  List.Nodup.length_le_of_subset (alv_nodup h) fun x hx => (mem_alv.mp hx).2
theorem alv_le2 (o L : List Int) : (alv o L).length ≤ o.length := List.length_filter_le _ _
theorem take_min {α : Type} {l : List α} {r m : Nat} (h : l.length ≤ m) : l.take (min r m) = l.take r := by
  by_cases c : r ≤ m
  · rw [Nat.min_eq_left c]
  · rw [Nat.min_eq_right (by omega), List.take_of_length_le h, List.take_of_length_le (by omega)]
/-- a list of d servers holds all live ones but those that are dead -/
theorem alv_ge {n : Nat} {o g : List Int} (ho : o.Nodup) (hs : ∀ x ∈ o, 0 ≤ x ∧ x < n) : o.length ≤ (alv o (oth n g)).length + g.length := by
  have p : (alv o (oth n g) ++ o.filter fun s => !decide (s ∈ oth n g)).Perm o := by
    unfold alv
    exact List.filter_append_perm _ _
  have e := p.length_eq
  rw [List.length_append] at e
  have h2 : (o.filter fun s => !decide (s ∈ oth n g)).length ≤ g.length := by
    refine List.Nodup.length_le_of_subset (ho.filter _) fun x hx => ?_
    obtain ⟨h1, h2⟩ := List.mem_filter.mp hx
    by_cases c : x ∈ g
    · exact c
    · have : x ∈ oth n g := mem_oth.mpr ⟨hs x h1, c⟩
      simp [this] at h2
  omega
/-- if a list holds all servers, all live ones are found -/
theorem alv_all {n : Nat} {o g : List Int} (ho : o.Nodup) (hs : ∀ x ∈ o, 0 ≤ x ∧ x < n) (hl : o.length = n) : (oth n g).length ≤ (alv o (oth n g)).length := by
  have hsub : ∀ x, 0 ≤ x ∧ x < (n : Int) → x ∈ o := by
    intro x hx
    by_cases c : x ∈ o
    · exact c
    · have h1 : (x :: o).length ≤ (rng n).length := List.Nodup.length_le_of_subset (List.nodup_cons.mpr ⟨c, ho⟩) fun y hy => by
        rcases List.mem_cons.mp hy with rfl | hy
        · exact mem_rng.mpr hx
        · exact mem_rng.mpr (hs y hy)
      rw [rng_len, List.length_cons, hl] at h1
      omega
  exact List.Nodup.length_le_of_subset (oth_nodup n g) fun x hx => mem_alv.mpr ⟨hsub x (mem_oth.mp hx).1, hx⟩
/-- n servers, f failures, factor r, t shards -/
structure Good (n f r t : Nat) : Prop where
  f1 : 1 ≤ f
  fn : f < n
  r1 : 1 ≤ r
  rn : r ≤ n
  gt : GoodT n (min n (f + r)) t
section
variable {n f r t k : Nat} {g : List Int}
theorem live_len (nd : g.Nodup) (sub : ∀ x ∈ g, 0 ≤ x ∧ x < n) : (oth n g).length = n - g.length := by
  have := oth_len nd sub
  omega
/-- enough live servers stand in each list -/
theorem enough (h : Good n f r t) (hk : k < t) (nd : g.Nodup) (sub : ∀ x ∈ g, 0 ≤ x ∧ x < n) (hg : g.length ≤ f) : min r (oth n g).length ≤ (alv (ordL n (min n (f + r)) t k) (oth n g)).length := by
  have o1 := ord_nodup h.gt hk
  have o2 := ord_sub h.gt hk
  have o3 := ord_len h.gt hk
  by_cases c : n ≤ f + r
  · rw [Nat.min_eq_left c] at o1 o2 o3 ⊢
    exact Nat.le_trans (Nat.min_le_right _ _) (alv_all o1 o2 o3)
  · rw [Nat.min_eq_right (by omega : f + r ≤ n)] at o1 o2 o3 ⊢
    have := alv_ge (g := g) o1 o2
    omega
/-- one more than the factor, if one more may fail -/
theorem enough2 (h : Good n f r t) (hk : k < t) (nd : g.Nodup) (sub : ∀ x ∈ g, 0 ≤ x ∧ x < n) (hg : g.length < f) (hr : r < (oth n g).length) : r < (alv (ordL n (min n (f + r)) t k) (oth n g)).length := by
  have o1 := ord_nodup h.gt hk
  have o2 := ord_sub h.gt hk
  have o3 := ord_len h.gt hk
  by_cases c : n ≤ f + r
  · rw [Nat.min_eq_left c] at o1 o2 o3 ⊢
    exact Nat.lt_of_lt_of_le hr (alv_all o1 o2 o3)
  · rw [Nat.min_eq_right (by omega : f + r ≤ n)] at o1 o2 o3 ⊢
    have := alv_ge (g := g) o1 o2
    omega
end
/-- who holds a shard of list o, L live -/
def own (o L : List Int) (r : Nat) : List Int := (alv o L).take r
end EF
/-! Heaps. -/
namespace EF
open PySem PySem.Spec PyProof.Rows L2
theorem ifT {b : Bool} {A B : Prop} (hb : b = true) (h : A) : if b = true then A else B := by rw [if_pos hb]; exact h
theorem ifF {b : Bool} {A B : Prop} (hb : b = false) (h : B) : if b = true then A else B := by rw [if_neg (by rw [hb]; exact Bool.false_ne_true)]; exact h
theorem sNew {H : Hp} {p : Addr} {o : HO} (h : H p = none) : Same H (upd H p o) := fun b u e => by
  rw [upd_ne (ne_of_none e h)]
  exact e
theorem sPut {H H' : Hp} {p : Addr} {o : HO} (e : Same H H') (h : H p = none) : Same H (upd H' p o) := fun b u q => by
  rw [upd_ne (ne_of_none q h)]
  exact e b u q
theorem sSeqT {K : PySem.W.Frag} {H H' : Hp} {a : Addr} {xs : List V} (e : Same H H') (h : SqT K H a xs) : SqT K H' a xs := by
  rcases h with (h | ⟨o, h⟩) | h
  · exact .inl (.inl (e _ _ h))
  · exact .inl (.inr ⟨o, e _ _ h⟩)
  · exact .inr h
/-- all that is tracked stands, but at the addresses of S -/
def Kp (S : List Addr) (H H' : Hp) : Prop := ∀ b o, b ∉ S → H b = some o → H' b = some o
theorem Kp.refl (S : List Addr) (H : Hp) : Kp S H H := fun _ _ _ h => h
theorem Kp.trans {S : List Addr} {H H1 H2 : Hp} (a : Kp S H H1) (b : Kp S H1 H2) : Kp S H H2 := fun c o n h => b c o n (a c o n h)
theorem Kp.of {S : List Addr} {H H' : Hp} (e : Same H H') : Kp S H H' := fun b o _ h => e b o h
theorem Kp.mono {S S' : List Addr} {H H' : Hp} (k : Kp S H H') (h : ∀ b ∈ S, b ∈ S') : Kp S' H H' := fun b o n q => k b o (fun z => n (h b z)) q
theorem Kp.put {S : List Addr} {H H' : Hp} {p : Addr} {o : HO} (k : Kp S H H') (hp : p ∈ S) : Kp S H (upd H' p o) := fun b u n q => by
  rw [upd_ne (show b ≠ p from fun z => n (by rw [z]; exact hp))]
  exact k b u n q
theorem Kp.new {S : List Addr} {H H' : Hp} {p : Addr} {o : HO} (k : Kp S H H') (hp : H p = none) : Kp S H (upd H' p o) := fun b u n q => by
  rw [upd_ne (ne_of_none q hp)]
  exact k b u n q
/-- what stood before the addresses of S were made stands -/
theorem Same.kp {S : List Addr} {H0 H H' : Hp} (e : Same H0 H) (k : Kp S H H') (h : ∀ b ∈ S, H0 b = none) : Same H0 H' := fun b o q =>
  k b o (fun z => by rw [h b z] at q; cases q) (e b o q)
/-- the int tuple, the int list at an address -/
abbrev TI (H : Hp) (a : Addr) (ns : List Int) : Prop := H a = some (.tup (ns.map V.int))
abbrev LI (H : Hp) (a : Addr) (ns : List Int) : Prop := H a = some (.lst (ns.map V.int))
/-- an int tuple, as a tuple or one known to its object -/
abbrev TR (H : Hp) (a : Addr) (ns : List Int) : Prop := Rd H a (.tup (ns.map V.int))
theorem TR.sq {K : PySem.W.Frag} {H : Hp} {a : Addr} {ns : List Int} (h : TR H a ns) : SqT K H a (ns.map V.int) := .inl h
theorem TR.same {H H' : Hp} {a : Addr} {ns : List Int} (h : TR H a ns) (e : Same H H') : TR H' a ns := by
  rcases h with h | ⟨o, h⟩
  · exact .inl (e _ _ h)
  · exact .inr ⟨o, e _ _ h⟩
end EF
namespace EF
open PySem PySem.Spec PyProof.Rows L2
local macro_rules | `(tactic| walk_at "rd") => `(tactic| repeat (first
  | refine ⟨_, rfl, ?_⟩ | refine ⟨_, _, rfl, ?_⟩ | refine ⟨_, _, rfl, rfl, ?_⟩ | refine ⟨_, _, _, rfl, ?_⟩ | refine ⟨_, _, _, rfl, rfl, rfl, ?_⟩ | refine ⟨_, _, _, _, rfl, ?_⟩ | refine ⟨_, _, _, _, rfl, rfl, rfl, rfl, ?_⟩ | refine ⟨_, _, _, _, _, rfl, ?_⟩))
section
variable {P : Program} {w : World} {K : PySem.W.Frag} {mg : Str → Option Value} {base : Heap}
/-! numbers -/
abbrev sp_is_integer_numbers (K : PySem.W.Frag) : Sp := sp1 fun x H Q => ∃ i : Int, x = .int i ∧ Q (.bl true) H
abbrev sp_binomial (K : PySem.W.Frag) : Sp := sp2 fun x y H Q => ∃ n k : Int, x = .int n ∧ y = .int k ∧ 0 ≤ n ∧ n ≤ 6 ∧ 0 ≤ k ∧ k ≤ 6 ∧ Q (.int (chI n k)) H
abbrev sp_edge_divisor (K : PySem.W.Frag) : Sp := sp2 fun x y H Q => ∃ n k : Int, x = .int n ∧ y = .int k ∧ 1 ≤ n ∧ n ≤ 6 ∧ 0 ≤ k ∧ k ≤ 6 ∧ Q (.int (n * chI (n - 1) k)) H
abbrev N_is_integer_numbers : List Str := ["thing"]
theorem sc_is_integer_numbers : FnScope N_is_integer_numbers ["thing"] (defScope s_is_integer_numbers) := ⟨rfl, rfl, rfl, by decide +kernel, rfl, by decide +kernel, by decide +kernel⟩
theorem ok_is_integer_numbers (T : Tx K mg) : C8.Cal P w K mg base 1 "is_integer_numbers" (sp_is_integer_numbers K) [] := by
  refine calD (k := 0) (N := N_is_integer_numbers) (ps := ["thing"]) T.g_is_integer_numbers T.f_is_integer_numbers (fun _ _ _ _ _ _ us hl => match us, hl with | [_], _ => rfl) sc_is_integer_numbers len1 (fun cdv A outer s H vs Q E hr h => ?_)
  obtain ⟨x1, rfl, h⟩ := h
  refine ⟨_, (pss_one (ps_ret (pe_and (pe_callB call_isI (by rfl) T.n_isinstance (by decide +kernel) (pa_cons (pv 0) (pa_cons (pe_bltn (v := .ty "int") (by rfl) T.n_int (by decide +kernel) rfl) pa_nil))) (pe_one (pe_not (pe_callB call_isB (by rfl) T.n_isinstance (by decide +kernel) (pa_cons (pv 0) (pa_cons (pe_bltn (v := .ty "bool") (by rfl) T.n_bool (by decide +kernel) rfl) pa_nil)))))))), ?_⟩
  obtain ⟨i, rfl, q⟩ := h
  walk_at "rd"
  exact q
theorem chI_nat (n k : Nat) : chI (n : Int) (k : Int) = ((cho n k : Nat) : Int) := rfl
theorem chI_zero (N : Nat) : chI (N : Int) ((0 : Nat) : Int) = 1 := by cases N <;> rfl
theorem chI_step {N i : Nat} (hN : N ≤ 6) (hi : i < N) : chI (N : Int) (i : Int) * ((N : Int) - (i : Int)) / ((i : Int) + 1) = chI (N : Int) ((i : Int) + 1) := by
  have e := cho_step N (by omega) i hi
  have e2 : ((i : Int) + 1) = ((i + 1 : Nat) : Int) := by omega
  have e3 : ((N : Int) - (i : Int)) = ((N - i : Nat) : Int) := by omega
  rw [e2, e3, chI_nat, chI_nat, ← e]
  rfl
abbrev N_binomial : List Str := ["n", "k", "found", "step"]
theorem sc_binomial : FnScope N_binomial ["n", "k"] (defScope s_binomial) := ⟨rfl, rfl, rfl, by decide +kernel, rfl, by decide +kernel, by decide +kernel⟩
theorem ok_binomial (T : Tx K mg) : C8.Cal P w K mg base 1 "binomial" (sp_binomial K) [] := by
  refine calD (k := 0) (N := N_binomial) (ps := ["n", "k"]) T.g_binomial T.f_binomial (fun _ _ _ _ _ _ us hl => match us, hl with | [_, _], _ => rfl) sc_binomial len2 (fun cdv A outer s H vs Q E hr h => ?_)
  obtain ⟨x1, x2, rfl, h⟩ := h
  refine ⟨_, (pss_cons (ps_if (pt_cmpR op_gt (pv 1) (pv 0) (nomark _))
    (pss_one (ps_ret pe_int))
    pss_nil)
    (pss_cons (ps_set (i := 2) sc_binomial.nd rfl (Or.inl rfl) pe_int)
    (pss_cons (ps_for PassesOwn.never rfl (pi_range1 (by rfl) T.n_range (pa_cons (pe_callB (call_min2 rfl) (by rfl) T.n_min (by decide +kernel) (pa_cons (pv 1) (pa_cons (pe_op op_sub (pv 0) (pv 1)) pa_nil))) pa_nil)) (pg_name (i := 3) sc_binomial.nd rfl (Or.inl rfl))
    (pss_one (ps_set (i := 2) sc_binomial.nd rfl (Or.inl rfl) (pe_op op_fdiv (pe_op op_mul (pv 2) (pe_op op_sub (pv 0) (pv 3))) (pe_op op_add (pv 3) pe_int)))))
    (pss_one (ps_ret (pv 2)))))), ?_⟩
  obtain ⟨n, k, rfl, rfl, h0, h1, h2, h3, q⟩ := h
  obtain ⟨N, rfl⟩ := Int.eq_ofNat_of_zero_le h0
  obtain ⟨k, rfl⟩ := Int.eq_ofNat_of_zero_le h2
  walk_at "rd"
  refine ite2 (fun e => ?_) (fun e => ?_)
  · walk_at "rd"
    have e1 := of_decide_eq_true e
    have e2 : chI (N : Int) (k : Int) = 0 := by rw [chI_nat, cho_big N (by omega) k (by omega) (by omega)]; rfl
    rw [e2] at q
    exact q
  · have e1 : ¬ ((N : Int) < (k : Int)) := fun z => e (decide_eq_true z)
    walk_at "rd"
    refine ⟨by split <;> omega, by split <;> omega, for_range (fun i σ H' => H' = H ∧ ∃ v, σ = [some (.int N), some (.int k), some (.int (chI N (i : Int))), v]) ⟨rfl, none, by rw [chI_zero]; rfl⟩ ?_ ?_⟩
    · rintro i σ H' hi ⟨rfl, v, rfl⟩
      have hi2 : i < N ∧ i ≤ 6 := by split at hi <;> omega
      have hc := cho_lt N (by omega) i (by omega)
      walk_at "rd"
      refine ⟨.inl ⟨?_, ?_⟩, ?_⟩
      · rw [chI_nat]; omega
      · rw [chI_nat]; omega
      walk_at "rd"
      refine ⟨⟨by omega, by omega⟩, rfl, some (.int (0 + (i : Int))), ?_⟩
      rw [Int.zero_add]
      show [some (V.int N), some (V.int k), some (V.int (chI N (i : Int) * ((N : Int) - (i : Int)) / ((i : Int) + 1))), some (V.int (i : Int))] = _
      rw [chI_step (by omega) hi2.1]
      rfl
    · rintro σ H' ⟨rfl, v, rfl⟩
      walk_at "rd"
      have e2 := cho_sym N (by omega) k (by omega)
      have e3 : (if (N : Int) - (k : Int) < (k : Int) then (N : Int) - (k : Int) else (k : Int)) = ((min k (N - k) : Nat) : Int) := by split <;> omega
      rw [e3]
      show Q (.int (chI N ((min k (N - k) : Nat) : Int))) H'
      rw [chI_nat, e2, ← chI_nat]
      exact q
abbrev N_edge_divisor : List Str := ["n", "size"]
theorem sc_edge_divisor : FnScope N_edge_divisor ["n", "size"] (defScope s_edge_divisor) := ⟨rfl, rfl, rfl, by decide +kernel, rfl, by decide +kernel, by decide +kernel⟩
theorem ok_edge_divisor (T : Tx K mg) : C8.Cal P w K mg base 2 "edge_divisor" (sp_edge_divisor K) [] := by
  have c_binomial := ok_binomial (P := P) (w := w) (K := K) (mg := mg) (base := base) T
  refine calD (k := 1) (N := N_edge_divisor) (ps := ["n", "size"]) T.g_edge_divisor T.f_edge_divisor (fun _ _ _ _ _ _ us hl => match us, hl with | [_, _], _ => rfl) sc_edge_divisor len2 (fun cdv A outer s H vs Q E hr h => ?_)
  obtain ⟨x1, x2, rfl, h⟩ := h
  refine ⟨_, (pss_one (ps_ret (pe_op op_mul (pv 0) (C8.pe_c c_binomial hr (by decide) (by rfl) (pa_cons (pe_op op_sub (pv 0) pe_int) (pa_cons (pv 1) pa_nil)))))), ?_⟩
  obtain ⟨n, k, rfl, rfl, h0, h1, h2, h3, q⟩ := h
  walk_at "rd"
  refine ⟨by omega, by omega, h2, h3, ?_⟩
  walk_at "rd"
  exact ⟨.inl ⟨by omega, by omega⟩, q⟩
end
end EF
namespace EF
open PySem PySem.Spec PyProof.Rows L2
local macro_rules | `(tactic| walk_at "rd") => `(tactic| repeat (first
  | refine ⟨_, rfl, ?_⟩ | refine ⟨rfl, ?_⟩ | refine ⟨_, _, rfl, ?_⟩ | refine ⟨_, _, rfl, rfl, ?_⟩ | refine ⟨_, _, _, rfl, ?_⟩ | refine ⟨_, _, _, rfl, rfl, rfl, ?_⟩ | refine ⟨_, _, _, _, rfl, ?_⟩ | refine ⟨_, _, _, _, rfl, rfl, rfl, rfl, ?_⟩ | refine ⟨_, _, _, _, _, rfl, ?_⟩))
section
variable {P : Program} {w : World} {K : PySem.W.Frag} {mg : Str → Option Value} {base : Heap}
abbrev sp_common_divisor (K : PySem.W.Frag) : Sp := sp2 fun x y H Q => ∃ a b : Nat, x = .int a ∧ y = .int b ∧ Q (.int (Nat.gcd a b : Nat)) H
abbrev sp_common_multiple (K : PySem.W.Frag) : Sp := sp1 fun x H Q => ∃ (a : Addr) (ns : List Nat), x = .ref a ∧ SqL K H a (ns.map fun n => V.int (n : Nat)) ∧ (∀ n ∈ ns, 0 < n ∧ n ≤ 60) ∧ Q (.int (lcms ns : Nat)) H
abbrev sp_least_lists (K : PySem.W.Frag) : Sp := sp2 fun x y H Q => ∃ n d : Nat, x = .int n ∧ y = .int d ∧ 2 ≤ n ∧ n ≤ 6 ∧ d ≤ n ∧ ∀ H', Same H H' → Q (.int (least n d : Nat)) H'
abbrev sp_is_possible (K : PySem.W.Frag) : Sp := sp3 fun x y z H Q => ∃ n d c : Nat, x = .int n ∧ y = .int d ∧ z = .int c ∧ 2 ≤ n ∧ n ≤ 6 ∧ d ≤ n ∧ 0 < c ∧ least n d ∣ c ∧ ∀ H', Same H H' → Q (.bl true) H'
abbrev sp__law_comb (K : PySem.W.Frag) : Sp := sp_binomial K
abbrev sp__law_gcd (K : PySem.W.Frag) : Sp := sp_common_divisor K
abbrev sp__law_least (K : PySem.W.Frag) : Sp := sp2 fun x y H Q => ∃ n d : Nat, x = .int n ∧ y = .int d ∧ 2 ≤ n ∧ n ≤ 6 ∧ d ≤ n ∧ Q (.int (least n d : Nat)) H
abbrev N_common_divisor : List Str := ["one", "other"]
theorem sc_common_divisor : FnScope N_common_divisor ["one", "other"] (defScope s_common_divisor) := ⟨rfl, rfl, rfl, by decide +kernel, rfl, by decide +kernel, by decide +kernel⟩
theorem ok_common_divisor (T : Tx K mg) : C8.Cal P w K mg base 1 "common_divisor" (sp_common_divisor K) [] := by
  refine calD (k := 0) (N := N_common_divisor) (ps := ["one", "other"]) T.g_common_divisor T.f_common_divisor (fun _ _ _ _ _ _ us hl => match us, hl with | [_, _], _ => rfl) sc_common_divisor len2 (fun cdv A outer s H vs Q E hr h => ?_)
  obtain ⟨x1, x2, rfl, h⟩ := h
  refine ⟨_, (pss_cons (ps_while PassesOwn.never (pt_cmpR op_gt (pv 1) pe_int (nomark _))
    (pss_one (ps_par (i := 0) (j := 1) rfl sc_common_divisor.nd rfl rfl (by decide) rfl rfl (pa_cons (pv 1) (pa_cons (pe_op op_mod (pv 0) (pv 1)) pa_nil)) (by rfl))))
    (pss_one (ps_ret (pv 0)))), ?_⟩
  obtain ⟨a, b, rfl, rfl, q⟩ := h
  refine ⟨fun m σ H' => H' = H ∧ ∃ a' : Nat, σ = [some (.int a'), some (.int m)] ∧ Nat.gcd a' m = Nat.gcd a b, ⟨b, rfl, a, rfl, rfl⟩, ?_⟩
  rintro m σ H' ⟨rfl, a', rfl, e⟩
  walk_at "rd"
  refine ite2 (fun c => ?_) (fun c => ?_)
  · have c1 : 0 < (m : Int) := of_decide_eq_true c
    refine ⟨fun σ' H'' => ∃ m', m' < m ∧ (H'' = H' ∧ ∃ a' : Nat, σ' = [some (.int a'), some (.int m')] ∧ Nat.gcd a' m' = Nat.gcd a b), fun _ _ z => z, ?_⟩
    walk_at "rd"
    refine ⟨c1, ?_⟩
    walk_at "rd"
    refine ⟨a' % m, Nat.mod_lt _ (by omega), rfl, m, rfl, ?_⟩
    rw [← e, Nat.gcd_comm a' m, Nat.gcd_rec m a', Nat.gcd_comm]
  · have c1 : ¬ 0 < (m : Int) := fun z => c (decide_eq_true z)
    have m0 : m = 0 := by omega
    subst m0
    walk_at "rd"
    rw [Nat.gcd_zero_right] at e
    rw [e]
    exact q
theorem lcm_val (f x : Nat) : (f : Int) / ((Nat.gcd f x : Nat) : Int) * (x : Int) = ((f / Nat.gcd f x * x : Nat) : Int) := by
  rw [Int.natCast_mul, Int.natCast_ediv]
theorem gcd_small {f x : Nat} (h0 : 0 < x) (h : x ≤ 60) : 0 < Nat.gcd f x ∧ Nat.gcd f x ≤ 60 := ⟨Nat.gcd_pos_of_pos_right f h0, Nat.le_trans (Nat.gcd_le_right f h0) h⟩
abbrev N_common_multiple : List Str := ["some", "found", "one"]
theorem sc_common_multiple : FnScope N_common_multiple ["some"] (defScope s_common_multiple) := ⟨rfl, rfl, rfl, by decide +kernel, rfl, by decide +kernel, by decide +kernel⟩
theorem ok_common_multiple (T : Tx K mg) : C8.Cal P w K mg base 2 "common_multiple" (sp_common_multiple K) [] := by
  have c_common_divisor := ok_common_divisor (P := P) (w := w) (K := K) (mg := mg) (base := base) T
  refine calD (k := 1) (N := N_common_multiple) (ps := ["some"]) T.g_common_multiple T.f_common_multiple (fun _ _ _ _ _ _ us hl => match us, hl with | [_], _ => rfl) sc_common_multiple len1 (fun cdv A outer s H vs Q E hr h => ?_)
  obtain ⟨x1, rfl, h⟩ := h
  refine ⟨_, (pss_cons (ps_set (i := 1) sc_common_multiple.nd rfl (Or.inl rfl) pe_int)
    (pss_cons (ps_for PassesOwn.never rfl (pi_list (pv 0)) (pg_name (i := 2) sc_common_multiple.nd rfl (Or.inl rfl))
    (pss_one (ps_set (i := 1) sc_common_multiple.nd rfl (Or.inl rfl) (pe_op op_mul (pe_op op_fdiv (pv 1) (C8.pe_c c_common_divisor hr (by decide) (by rfl) (pa_cons (pv 1) (pa_cons (pv 2) pa_nil)))) (pv 2)))))
    (pss_one (ps_ret (pv 1))))), ?_⟩
  obtain ⟨a, ns, rfl, hS, hb, q⟩ := h
  walk_at "rd"
  refine ⟨⟨_, hS⟩, for_list (K := K) (a := a) (xs := ns.map fun n => V.int (n : Nat)) (fun i σ H' => H' = H ∧ ∃ v, σ = [some (.ref a), some (.int (lcms (ns.take i) : Nat)), v]) ⟨rfl, none, rfl⟩ (fun i σ H' _ ⟨e, _⟩ => by rw [e]; exact hS) ?_ ?_⟩
  · rintro i x σ H' hi ⟨rfl, v, rfl⟩
    rw [List.getElem?_map] at hi
    cases ex : ns[i]? with
    | none => rw [ex] at hi; cases hi
    | some n =>
      rw [ex] at hi
      cases hi
      have hn := hb n (List.mem_of_getElem? ex)
      have hg := gcd_small (f := lcms (ns.take i)) hn.1 hn.2
      walk_at "rd"
      refine ⟨⟨by omega, by omega⟩, ?_⟩
      walk_at "rd"
      refine ⟨.inr ⟨by omega, by omega⟩, rfl, some (.int (n : Nat)), ?_⟩
      show [some (V.ref a), some (V.int ((lcms (ns.take i) : Int) / ((Nat.gcd (lcms (ns.take i)) n : Nat) : Int) * (n : Int))), some (V.int (n : Nat))] = _
      rw [lcm_val, ← lcms_snoc ex]
  · rintro σ H' ⟨rfl, v, rfl⟩
    walk_at "rd"
    rw [List.length_map, List.take_length]
    exact q
theorem edg_val {n i : Nat} (h1 : 0 < n) : (n : Int) * chI ((n : Int) - 1) (i : Int) = ((edg n i : Nat) : Int) := by
  have e : ((n : Int) - 1) = ((n - 1 : Nat) : Int) := by omega
  rw [e, chI_nat]
  unfold edg
  rw [Int.natCast_mul]
theorem edgs_good {n d : Nat} (h1 : 2 ≤ n) (h2 : n ≤ 6) (h3 : d ≤ n) : ∀ x ∈ edgs n d, 0 < x ∧ x ≤ 60 := by
  intro x hx
  unfold edgs at hx
  obtain ⟨i, hi, rfl⟩ := List.mem_map.mp hx
  exact edg_pos n (by omega) (by omega) i (by have := List.mem_range.mp hi; omega)
abbrev N_least_lists : List Str := ["n", "depth", "size"]
theorem sc_least_lists : FnScope N_least_lists ["n", "depth"] (defScope s_least_lists) := ⟨rfl, rfl, rfl, by decide +kernel, rfl, by decide +kernel, by decide +kernel⟩
theorem ok_least_lists (T : Tx K mg) : C8.Cal P w K mg base 3 "least_lists" (sp_least_lists K) [] := by
  have c_common_multiple := ok_common_multiple (P := P) (w := w) (K := K) (mg := mg) (base := base) T
  have c_edge_divisor := ok_edge_divisor (P := P) (w := w) (K := K) (mg := mg) (base := base) T
  refine calD (k := 2) (N := N_least_lists) (ps := ["n", "depth"]) T.g_least_lists T.f_least_lists (fun _ _ _ _ _ _ us hl => match us, hl with | [_, _], _ => rfl) sc_least_lists len2 (fun cdv A outer s H vs Q E hr h => ?_)
  obtain ⟨x1, x2, rfl, h⟩ := h
  refine ⟨_, (pss_one (ps_ret (C8.pe_c c_common_multiple hr (by decide) (by rfl) (pa_cons (pe_lc (own := [("size", 2)]) (g := gName 2) (tt := tYes) rfl sc_least_lists.nd (pi_range1 (by rfl) T.n_range (pa_cons (pv 1) pa_nil)) (blkOk_by (own := [("size", 2)]) (N := N_least_lists) (sc := defScope s_least_lists) (by decide +kernel)) (fun _ _ _ _ _ => pg_name (i := 2) sc_least_lists.nd rfl (Or.inl rfl)) (fun _ _ _ _ _ => pts_nil) (fun _ _ _ _ _ => (C8.pe_c c_edge_divisor hr (by decide) (by rfl) (pa_cons (pv 0) (pa_cons (pv 2) pa_nil))))) pa_nil)))), ?_⟩
  obtain ⟨n, d, rfl, rfl, h1, h2, h3, q⟩ := h
  walk_at "rd"
  refine ⟨by omega, by omega, fun D nD => lc_range (lo := 0) (n := ((d : Int)).toNat) (fun i H' => Same H H' ∧ H' D = some (.lst (((edgs n d).take i).map fun n => V.int (n : Nat)))) ⟨sNew nD, upd_same⟩ ?_ ?_⟩
  · rintro i H' hi ⟨sm, hD⟩
    have hi2 : i < d := by omega
    refine ⟨rfl, ?_⟩
    walk_at "rd"
    refine ⟨by omega, by omega, by omega, by omega, _, hD, by rw [List.length_map, List.length_take]; exact small1000 (by omega), sPut sm nD, ?_⟩
    rw [upd_same, Int.zero_add, edg_val (by omega), take_snoc (edgs_at hi2), List.map_append]
    rfl
  · rintro H' ⟨sm, hD⟩
    have e : (edgs n d).take ((d : Int)).toNat = edgs n d := List.take_of_length_le (by rw [edgs_len]; omega)
    rw [e] at hD
    exact ⟨_, rfl, D, edgs n d, rfl, SqL.of hD, edgs_good h1 h2 h3, q _ sm⟩
abbrev N_is_possible : List Str := ["n", "depth", "count"]
theorem sc_is_possible : FnScope N_is_possible ["n", "depth", "count"] (defScope s_is_possible) := ⟨rfl, rfl, rfl, by decide +kernel, rfl, by decide +kernel, by decide +kernel⟩
theorem ok_is_possible (T : Tx K mg) : C8.Cal P w K mg base 4 "is_possible" (sp_is_possible K) [] := by
  have c_least_lists := ok_least_lists (P := P) (w := w) (K := K) (mg := mg) (base := base) T
  have c_is_integer_numbers := ok_is_integer_numbers (P := P) (w := w) (K := K) (mg := mg) (base := base) T
  refine calD (k := 3) (N := N_is_possible) (ps := ["n", "depth", "count"]) T.g_is_possible T.f_is_possible (fun _ _ _ _ _ _ us hl => match us, hl with | [_, _, _], _ => rfl) sc_is_possible len3 (fun cdv A outer s H vs Q E hr h => ?_)
  obtain ⟨x1, x2, x3, rfl, h⟩ := h
  refine ⟨_, (pss_one (ps_ret (pe_and (C8.pe_c c_is_integer_numbers hr (by decide) (by rfl) (pa_cons (pv 2) pa_nil)) (pe_and (pe_cmpR op_gt (pv 2) pe_int (nomark _)) (pe_one (pe_cmpR op_eq (pe_op op_mod (pv 2) (C8.pe_c c_least_lists hr (by decide) (by rfl) (pa_cons (pv 0) (pa_cons (pv 1) pa_nil)))) pe_int (nomark _))))))), ?_⟩
  obtain ⟨n, d, c, rfl, rfl, rfl, h1, h2, h3, h4, h5, q⟩ := h
  walk_at "rd"
  rw [if_pos (decide_eq_true (show (0 : Int) < (c : Int) by omega))]
  have lp := least_pos n (by omega) (by omega) d (by omega)
  walk_at "rd"
  refine ⟨h1, h2, h3, fun H' sm => ?_⟩
  walk_at "rd"
  refine ⟨by omega, rfl, ?_⟩
  have e : ((c : Int) % ((least n d : Nat) : Int)) = 0 := by
    rw [← Int.natCast_emod, Nat.mod_eq_zero_of_dvd h5]; rfl
  show Q (.bl (decide (V.int ((c : Int) % ((least n d : Nat) : Int)) = V.int 0))) H'
  rw [e]
  exact q _ sm
abbrev N__law_gcd : List Str := ["_law_a", "_law_b"]
theorem sc__law_gcd : FnScope N__law_gcd ["_law_a", "_law_b"] (defScope s__law_gcd) := ⟨rfl, rfl, rfl, by decide +kernel, rfl, by decide +kernel, by decide +kernel⟩
theorem ok__law_gcd (T : Tx K mg) : C8.Cal P w K mg base 1 "_law_gcd" (sp__law_gcd K) [] := by
  refine calD (k := 0) (N := N__law_gcd) (ps := ["_law_a", "_law_b"]) T.g__law_gcd T.f__law_gcd (fun _ _ _ _ _ _ us hl => match us, hl with | [_, _], _ => rfl) sc__law_gcd len2 (fun cdv A outer s H vs Q E hr h => ?_)
  obtain ⟨x1, x2, rfl, h⟩ := h
  refine ⟨_, (pss_cons (ps_while PassesOwn.never (pt_cmpR op_gt (pv 1) pe_int (nomark _))
    (pss_one (ps_par (i := 0) (j := 1) rfl sc__law_gcd.nd rfl rfl (by decide) rfl rfl (pa_cons (pv 1) (pa_cons (pe_op op_mod (pv 0) (pv 1)) pa_nil)) (by rfl))))
    (pss_one (ps_ret (pv 0)))), ?_⟩
  obtain ⟨a, b, rfl, rfl, q⟩ := h
  refine ⟨fun m σ H' => H' = H ∧ ∃ a' : Nat, σ = [some (.int a'), some (.int m)] ∧ Nat.gcd a' m = Nat.gcd a b, ⟨b, rfl, a, rfl, rfl⟩, ?_⟩
  rintro m σ H' ⟨rfl, a', rfl, e⟩
  walk_at "rd"
  refine ite2 (fun c => ?_) (fun c => ?_)
  · have c1 : 0 < (m : Int) := of_decide_eq_true c
    refine ⟨fun σ' H'' => ∃ m', m' < m ∧ (H'' = H' ∧ ∃ a' : Nat, σ' = [some (.int a'), some (.int m')] ∧ Nat.gcd a' m' = Nat.gcd a b), fun _ _ z => z, ?_⟩
    walk_at "rd"
    refine ⟨c1, ?_⟩
    walk_at "rd"
    refine ⟨a' % m, Nat.mod_lt _ (by omega), rfl, m, rfl, ?_⟩
    rw [← e, Nat.gcd_comm a' m, Nat.gcd_rec m a', Nat.gcd_comm]
  · have c1 : ¬ 0 < (m : Int) := fun z => c (decide_eq_true z)
    have m0 : m = 0 := by omega
    subst m0
    walk_at "rd"
    rw [Nat.gcd_zero_right] at e
    rw [e]
    exact q
end
end EF
namespace EF
open PySem PySem.Spec PyProof.Rows L2
local macro_rules | `(tactic| walk_at "rd") => `(tactic| repeat (first
  | refine ⟨_, rfl, ?_⟩ | refine ⟨rfl, ?_⟩ | refine ⟨_, _, rfl, ?_⟩ | refine ⟨_, _, rfl, rfl, ?_⟩ | refine ⟨_, _, _, rfl, ?_⟩ | refine ⟨_, _, _, rfl, rfl, rfl, ?_⟩ | refine ⟨_, _, _, _, rfl, ?_⟩ | refine ⟨_, _, _, _, rfl, rfl, rfl, rfl, ?_⟩ | refine ⟨_, _, _, _, _, rfl, ?_⟩))
section
variable {P : Program} {w : World} {K : PySem.W.Frag} {mg : Str → Option Value} {base : Heap}
theorem filt_snoc {α : Type} {l : List α} {p : α → Bool} {i : Nat} {x : α} (h : l[i]? = some x) : (l.take (i + 1)).filter p = (l.take i).filter p ++ (if p x then [x] else []) := by
  rw [take_snoc h, List.filter_append]
  cases hp : p x <;> simp [List.filter_cons, hp]
theorem filt_len {n i : Nat} (p : Int → Bool) (hn : n ≤ 1000) : ((((rng n).take i).filter p).map V.int).length < sizeLine := by
  rw [List.length_map]
  refine small1000 (Nat.le_trans (List.length_filter_le _ _) ?_)
  rw [List.length_take, rng_len]
  omega
theorem chI_stepI : ∀ N : Nat, N < 7 → ∀ i : Nat, i < 7 → (cho N i : Int) * ((N : Int) - (i : Int)) / ((i : Int) + 1) = ((cho N (i + 1) : Nat) : Int) := by decide
abbrev N__law_comb : List Str := ["_law_n", "_law_k", "_law_found", "_law_step"]
theorem sc__law_comb : FnScope N__law_comb ["_law_n", "_law_k"] (defScope s__law_comb) := ⟨rfl, rfl, rfl, by decide +kernel, rfl, by decide +kernel, by decide +kernel⟩
theorem ok__law_comb (T : Tx K mg) : C8.Cal P w K mg base 1 "_law_comb" (sp__law_comb K) [] := by
  refine calD (k := 0) (N := N__law_comb) (ps := ["_law_n", "_law_k"]) T.g__law_comb T.f__law_comb (fun _ _ _ _ _ _ us hl => match us, hl with | [_, _], _ => rfl) sc__law_comb len2 (fun cdv A outer s H vs Q E hr h => ?_)
  obtain ⟨x1, x2, rfl, h⟩ := h
  refine ⟨_, (pss_cons (ps_set (i := 2) sc__law_comb.nd rfl (Or.inl rfl) pe_int)
    (pss_cons (ps_for PassesOwn.never rfl (pi_range1 (by rfl) T.n_range (pa_cons (pv 1) pa_nil)) (pg_name (i := 3) sc__law_comb.nd rfl (Or.inl rfl))
    (pss_one (ps_set (i := 2) sc__law_comb.nd rfl (Or.inl rfl) (pe_op op_fdiv (pe_op op_mul (pv 2) (pe_op op_sub (pv 0) (pv 3))) (pe_op op_add (pv 3) pe_int)))))
    (pss_one (ps_ret (pe_ifExp (pt_cmpR op_le (pv 1) (pv 0) (nomark _)) (pv 2) pe_int))))), ?_⟩
  obtain ⟨n, k, rfl, rfl, h0, h1, h2, h3, q⟩ := h
  obtain ⟨N, rfl⟩ := Int.eq_ofNat_of_zero_le h0
  obtain ⟨k, rfl⟩ := Int.eq_ofNat_of_zero_le h2
  walk_at "rd"
  refine ⟨by omega, by omega, for_range (fun i σ H' => H' = H ∧ ∃ v, σ = [some (.int N), some (.int k), some (.int ((cho N i : Nat) : Int)), v]) ⟨rfl, none, by rw [show cho N 0 = 1 by cases N <;> rfl]; rfl⟩ ?_ ?_⟩
  · rintro i σ H' hi ⟨rfl, v, rfl⟩
    have hc := cho_lt N (by omega) i (by omega)
    walk_at "rd"
    refine ⟨.inl ⟨by omega, by omega⟩, ?_⟩
    walk_at "rd"
    refine ⟨⟨by omega, by omega⟩, rfl, some (.int (0 + (i : Int))), ?_⟩
    rw [Int.zero_add]
    show [some (V.int N), some (V.int k), some (V.int ((cho N i : Int) * ((N : Int) - (i : Int)) / ((i : Int) + 1))), some (V.int (i : Int))] = _
    rw [chI_stepI N (by omega) i (by omega)]
  · rintro σ H' ⟨rfl, v, rfl⟩
    walk_at "rd"
    refine ite2 (fun c => ?_) (fun c => ?_)
    · walk_at "rd"
      exact q
    · have c1 : ¬ (k : Int) ≤ (N : Int) := fun z => c (decide_eq_true z)
      walk_at "rd"
      rw [chI_nat, cho_big N (by omega) k (by omega) (by omega)] at q
      exact q
theorem lcm_val2 (f x : Nat) : (f : Int) * (x : Int) / ((Nat.gcd f x : Nat) : Int) = ((f / Nat.gcd f x * x : Nat) : Int) := by
  rw [Nat.div_mul_right_comm (Nat.gcd_dvd_left f x), Int.natCast_ediv, Int.natCast_mul]
abbrev N__law_least : List Str := ["_law_n", "_law_depth", "_law_found", "_law_size", "_law_part"]
theorem sc__law_least : FnScope N__law_least ["_law_n", "_law_depth"] (defScope s__law_least) := ⟨rfl, rfl, rfl, by decide +kernel, rfl, by decide +kernel, by decide +kernel⟩
theorem ok__law_least (T : Tx K mg) : C8.Cal P w K mg base 2 "_law_least" (sp__law_least K) [] := by
  have c__law_gcd := ok__law_gcd (P := P) (w := w) (K := K) (mg := mg) (base := base) T
  have c__law_comb := ok__law_comb (P := P) (w := w) (K := K) (mg := mg) (base := base) T
  refine calD (k := 1) (N := N__law_least) (ps := ["_law_n", "_law_depth"]) T.g__law_least T.f__law_least (fun _ _ _ _ _ _ us hl => match us, hl with | [_, _], _ => rfl) sc__law_least len2 (fun cdv A outer s H vs Q E hr h => ?_)
  obtain ⟨x1, x2, rfl, h⟩ := h
  refine ⟨_, (pss_cons (ps_set (i := 2) sc__law_least.nd rfl (Or.inl rfl) pe_int)
    (pss_cons (ps_for PassesOwn.never rfl (pi_range1 (by rfl) T.n_range (pa_cons (pv 1) pa_nil)) (pg_name (i := 3) sc__law_least.nd rfl (Or.inl rfl))
    (pss_cons (ps_set (i := 4) sc__law_least.nd rfl (Or.inl rfl) (pe_op op_mul (pv 0) (C8.pe_c c__law_comb hr (by decide) (by rfl) (pa_cons (pe_op op_sub (pv 0) pe_int) (pa_cons (pv 3) pa_nil)))))
      (pss_one (ps_set (i := 2) sc__law_least.nd rfl (Or.inl rfl) (pe_op op_fdiv (pe_op op_mul (pv 2) (pv 4)) (C8.pe_c c__law_gcd hr (by decide) (by rfl) (pa_cons (pv 2) (pa_cons (pv 4) pa_nil))))))))
    (pss_one (ps_ret (pv 2))))), ?_⟩
  obtain ⟨n, d, rfl, rfl, h1, h2, h3, q⟩ := h
  walk_at "rd"
  refine ⟨by omega, by omega, for_range (fun i σ H' => H' = H ∧ ∃ v u, σ = [some (.int n), some (.int d), some (.int (lcms ((edgs n d).take i) : Nat)), v, u]) ⟨rfl, none, none, rfl⟩ ?_ ?_⟩
  · rintro i σ H' hi ⟨rfl, v, u, rfl⟩
    have hi2 : i < d := by omega
    have hg := edgs_good h1 h2 h3 _ (List.mem_of_getElem? (edgs_at hi2))
    have hg2 := gcd_small (f := lcms ((edgs n d).take i)) hg.1 hg.2
    walk_at "rd"
    refine ⟨by omega, by omega, by omega, by omega, ?_⟩
    rw [Int.zero_add]
    walk_at "rd"
    refine ⟨.inl ⟨by omega, by omega⟩, ?_⟩
    dsimp only
    rw [edg_val (by omega)]
    walk_at "rd"
    refine ⟨.inr ⟨by omega, by omega⟩, ?_⟩
    walk_at "rd"
    refine ⟨⟨by omega, by omega⟩, rfl, some (.int (i : Int)), some (.int ((edg n i : Nat) : Int)), ?_⟩
    show [some (V.int n), some (V.int d), some (V.int ((lcms ((edgs n d).take i) : Int) * ((edg n i : Nat) : Int) / ((Nat.gcd (lcms ((edgs n d).take i)) (edg n i) : Nat) : Int))), some (V.int (i : Int)), some (V.int ((edg n i : Nat) : Int))] = _
    rw [lcm_val2, ← lcms_snoc (edgs_at hi2)]
  · rintro σ H' ⟨rfl, v, u, rfl⟩
    have e : (edgs n d).take ((d : Int)).toNat = edgs n d := List.take_of_length_le (by rw [edgs_len]; omega)
    rw [e]
    walk_at "rd"
    exact q
abbrev sp_outside (K : PySem.W.Frag) : Sp := sp2 fun x y H Q => ∃ (n : Nat) (a : Addr) (ms : List Int), x = .int n ∧ y = .ref a ∧ n ≤ 6 ∧ SqT K H a (ms.map V.int) ∧ ∀ p H', Same H H' → H p = none → TI H' p (oth n ms) → Q (.ref p) H'
abbrev N_outside : List Str := ["n", "members", "server"]
theorem sc_outside : FnScope N_outside ["n", "members"] (defScope s_outside) := ⟨rfl, rfl, rfl, by decide +kernel, rfl, by decide +kernel, by decide +kernel⟩
theorem ok_outside (T : Tx K mg) : C8.Cal P w K mg base 1 "outside" (sp_outside K) [] := by
  refine calD (k := 0) (N := N_outside) (ps := ["n", "members"]) T.g_outside T.f_outside (fun _ _ _ _ _ _ us hl => match us, hl with | [_, _], _ => rfl) sc_outside len2 (fun cdv A outer s H vs Q E hr h => ?_)
  obtain ⟨x1, x2, rfl, h⟩ := h
  refine ⟨_, (pss_one (ps_ret (pe_callTy call_tuple_of (by rfl) T.n_tuple (by decide +kernel) (pa_cons (pe_lc (own := [("server", 2)]) (g := gName 2) rfl sc_outside.nd (pi_range1 (by rfl) T.n_range (pa_cons (pv 0) pa_nil)) (blkOk_by (own := [("server", 2)]) (N := N_outside) (sc := defScope s_outside) (by decide +kernel)) (fun _ _ _ _ _ => pg_name (i := 2) sc_outside.nd rfl (Or.inl rfl)) (fun _ _ _ _ _ => pts_one (pt_cmpR (op_niK (K := K) rfl) (pv 2) (pv 1) (by rfl))) (fun _ _ _ _ _ => (pv 2))) pa_nil)))), ?_⟩
  obtain ⟨n, a, ms, rfl, rfl, h1, hS, q⟩ := h
  walk_at "rd"
  refine ⟨by omega, by omega, fun D nD => lc_range (lo := 0) (n := ((n : Int)).toNat) (fun i H' => Same H H' ∧ LI H' D (((rng n).take i).filter fun s => !decide (s ∈ ms))) ⟨sNew nD, upd_same⟩ ?_ ?_⟩
  · rintro i H' hi ⟨sm, hD⟩
    have hi2 : i < n := by omega
    refine ⟨rfl, ?_⟩
    rw [Int.zero_add]
    have ef := filt_snoc (p := fun s => !decide (s ∈ ms)) (rng_at hi2)
    refine ⟨_, rfl, _, rfl, _, _, ms, rfl, rfl, .inr (sSeqT sm hS), _, rfl, ite2 (fun c => ?_) (fun c => ?_)⟩
    · rw [if_pos c] at ef
      refine ⟨_, rfl, _, hD, filt_len _ (by omega), sPut sm nD, ?_⟩
      show upd H' D _ D = _
      rw [upd_same, ef, List.map_append]
      rfl
    · rw [if_neg c, List.append_nil] at ef
      refine ⟨sm, ?_⟩
      show H' D = _
      rw [ef]
      exact hD
  · rintro H' ⟨sm, hD⟩
    have e : (rng n).take ((n : Int)).toNat = rng n := List.take_of_length_le (by rw [rng_len]; omega)
    rw [e] at hD
    refine ⟨D, _, rfl, .inl ⟨SqL.of hD, fun l nl => ?_⟩⟩
    exact q l _ (fun b o e => sNew nl _ _ (sm _ _ e)) (sm.free nl) upd_same
end
end EF
namespace EF
open PySem PySem.Spec PyProof.Rows L2
local macro_rules | `(tactic| walk_at "rd") => `(tactic| repeat (first
  | refine ⟨_, rfl, ?_⟩ | refine ⟨rfl, ?_⟩ | refine ⟨_, _, rfl, ?_⟩ | refine ⟨_, _, rfl, rfl, ?_⟩ | refine ⟨_, _, _, rfl, ?_⟩ | refine ⟨_, _, _, rfl, rfl, rfl, ?_⟩ | refine ⟨_, _, _, _, rfl, ?_⟩ | refine ⟨_, _, _, _, rfl, rfl, rfl, rfl, ?_⟩ | refine ⟨_, _, _, _, _, rfl, ?_⟩))
section
variable {P : Program} {w : World} {K : PySem.W.Frag} {mg : Str → Option Value} {base : Heap}
/-- a tuple of ints known to its object -/
def FZ (H : Hp) (p : Addr) (ns : List Int) : Prop := ∃ o : Obj, o.cls = .type "tuple" ∧ o.dict = none ∧ H p = some (.frz o (.tup (ns.map V.int)))
theorem FZ.tr {H : Hp} {p : Addr} {ns : List Int} (h : FZ H p ns) : TR H p ns := let ⟨o, _, _, e⟩ := h; .inr ⟨o, e⟩
abbrev sp_with_server (K : PySem.W.Frag) : Sp := sp2 fun x y H Q => ∃ (a : Addr) (ms : List Int) (s : Int), x = .ref a ∧ y = .int s ∧ SqT K H a (ms.map V.int) ∧ ms.length ≤ 6 ∧ ms.Pairwise (· ≤ ·) ∧ ∀ p H', Same H H' → H p = none → FZ H' p (ins s ms) → Q (.ref p) H'
abbrev N_with_server : List Str := ["members", "server"]
theorem sc_with_server : FnScope N_with_server ["members", "server"] (defScope s_with_server) := ⟨rfl, rfl, rfl, by decide +kernel, rfl, by decide +kernel, by decide +kernel⟩
theorem ok_with_server (T : Tx K mg) : C8.Cal P w K mg base 1 "with_server" (sp_with_server K) [] := by
  refine calD (k := 0) (N := N_with_server) (ps := ["members", "server"]) T.g_with_server T.f_with_server (fun _ _ _ _ _ _ us hl => match us, hl with | [_, _], _ => rfl) sc_with_server len2 (fun cdv A outer s H vs Q E hr h => ?_)
  obtain ⟨x1, x2, rfl, h⟩ := h
  refine ⟨_, (pss_one (ps_ret (pe_callTy call_tupleF (by rfl) T.n_tuple (by decide +kernel) (pa_cons (pe_callB cr_sortA (by rfl) T.n_sorted (by decide +kernel) (pa_cons (pe_op op_catA (pv 0) (pe_tup (pa_cons (pv 1) pa_nil))) pa_nil)) pa_nil)))), ?_⟩
  obtain ⟨a, ms, z, rfl, rfl, hS, hl, hsr, q⟩ := h
  have fin : ∀ (b : Addr) (H2 : Hp), Same H H2 → SqT K H2 b ((ms ++ [z]).map V.int) → ∃ (a : Addr) (ns : List Int), [V.ref b] = [V.ref a] ∧ SqA K H2 a (ns.map V.int) ∧ ns.length < 64 ∧ ∀ (m : List Int) (p : Addr), m.Perm ns → m.Pairwise (· ≤ ·) → H2 p = none →
      ∃ (p2 : Addr) (ys : List V), [V.ref p] = [V.ref p2] ∧ SqL K (upd H2 p (.lst (m.map V.int))) p2 ys ∧ ∀ (l : Addr) (o : Obj), (upd H2 p (.lst (m.map V.int))) l = none → o.cls = .type "tuple" → o.dict = none → Q (.ref l) (upd (upd H2 p (.lst (m.map V.int))) l (.frz o (.tup ys))) := by
    intro b H2 sm hb
    refine ⟨b, ms ++ [z], rfl, .inr hb, by rw [List.length_append, List.length_singleton]; omega, fun m p hp hm np => ⟨p, m.map V.int, rfl, SqL.of upd_same, fun l o nl oc od => ?_⟩⟩
    have em := sort_ins hp hm hsr
    subst em
    refine q l _ (fun b o e => sNew nl _ _ (sNew np _ _ (sm _ _ e))) (sm.free ((sNew np).free nl)) ⟨o, oc, od, upd_same⟩
  walk_at "rd"
  refine ⟨by show 1 ≤ sizeLine; decide, fun t nt => ?_⟩
  refine ⟨a, t, ms.map V.int, [.int z], rfl, rfl, sSeqT (sNew nt) hS, SqT.of upd_same, ?_, fun e => ?_, fun _ e => ?_, fun _ _ p np => ?_⟩
  · rw [List.length_map, List.length_singleton]; exact Nat.le_of_lt (small1000 (by omega))
  · have em : ms = [] := List.map_eq_nil_iff.mp e
    subst em
    exact fin t _ (sNew nt) (SqT.of upd_same)
  · cases e
  · refine fin p _ (fun b o e => sNew np _ _ (sNew nt _ _ e)) (SqT.of ?_)
    rw [upd_same, List.map_append]
    rfl
abbrev sp_look_at_count (K : PySem.W.Frag) : Sp := sp3 fun x y z H Q => ∃ n d c : Nat, x = .int n ∧ y = .int d ∧ z = .int c ∧ 2 ≤ n ∧ n ≤ 6 ∧ d ≤ n ∧ 0 < c ∧ least n d ∣ c ∧ ∀ H', Same H H' → Q .non H'
abbrev N_look_at_count : List Str := ["n", "depth", "count"]
theorem sc_look_at_count : FnScope N_look_at_count ["n", "depth", "count"] (defScope s_look_at_count) := ⟨rfl, rfl, rfl, by decide +kernel, rfl, by decide +kernel, by decide +kernel⟩
theorem ok_look_at_count (T : Tx K mg) : C8.Cal P w K mg base 5 "look_at_count" (sp_look_at_count K) [] := by
  have c_is_possible := ok_is_possible (P := P) (w := w) (K := K) (mg := mg) (base := base) T
  refine calD (k := 4) (N := N_look_at_count) (ps := ["n", "depth", "count"]) T.g_look_at_count T.f_look_at_count (fun _ _ _ _ _ _ us hl => match us, hl with | [_, _, _], _ => rfl) sc_look_at_count len3 (fun cdv A outer s H vs Q E hr h => ?_)
  obtain ⟨x1, x2, x3, rfl, h⟩ := h
  refine ⟨_, (pss_one (ps_if (pt_not (pt_val (C8.pe_c c_is_possible hr (by decide) (by rfl) (pa_cons (pv 0) (pa_cons (pv 1) (pa_cons (pv 2) pa_nil))))))
    (pss_one ps_never)
    pss_nil)), ?_⟩
  obtain ⟨n, d, c, rfl, rfl, rfl, h1, h2, h3, h4, h5, q⟩ := h
  walk_at "rd"
  refine ⟨h1, h2, h3, h4, h5, fun H' sm => ?_⟩
  walk_at "rd"
  exact q _ sm
theorem wid_val {n t i : Nat} (h1 : 0 < n) : ((t : Nat) : Int) / ((n : Int) * chI ((n : Int) - 1) (i : Int)) = ((wid n t i : Nat) : Int) := by
  rw [edg_val h1, ← Int.natCast_ediv]
  rfl
abbrev sp_next_place (K : PySem.W.Frag) : Sp := sp4 fun x y z u H Q => ∃ (n t : Nat) (a : Addr) (r : Nat), x = .int n ∧ y = .int t ∧ z = .ref a ∧ u = .int r ∧ ∃ (d i : Nat) (ms o : List Int), GoodT n d t ∧ Sti n d t i ms r o ∧ i < d ∧ SqT K H a (ms.map V.int) ∧
  ∀ p q H', Same H H' → H p = none → H' p = some (.tup [.int (nxS n t ms r), .ref q, .int (nxR n t ms r (nxS n t ms r) : Nat)]) → TR H' q (ins (nxS n t ms r) ms) → Q (.ref p) H'
abbrev N_next_place : List Str := ["n", "count", "members", "rest", "width", "server", "larger"]
theorem sc_next_place : FnScope N_next_place ["n", "count", "members", "rest"] (defScope s_next_place) := ⟨rfl, rfl, rfl, by decide +kernel, rfl, by decide +kernel, by decide +kernel⟩
theorem ok_next_place (T : Tx K mg) : C8.Cal P w K mg base 3 "next_place" (sp_next_place K) [] := by
  have c_with_server := ok_with_server (P := P) (w := w) (K := K) (mg := mg) (base := base) T
  have c_outside := ok_outside (P := P) (w := w) (K := K) (mg := mg) (base := base) T
  have c_edge_divisor := ok_edge_divisor (P := P) (w := w) (K := K) (mg := mg) (base := base) T
  refine calD (k := 2) (N := N_next_place) (ps := ["n", "count", "members", "rest"]) T.g_next_place T.f_next_place (fun _ _ _ _ _ _ us hl => match us, hl with | [_, _, _, _], _ => rfl) sc_next_place len4 (fun cdv A outer s H vs Q E hr h => ?_)
  obtain ⟨x1, x2, x3, x4, rfl, h⟩ := h
  refine ⟨_, (pss_cons (ps_set (i := 4) sc_next_place.nd rfl (Or.inl rfl) (pe_op op_fdiv (pv 1) (C8.pe_c c_edge_divisor hr (by decide) (by rfl) (pa_cons (pv 0) (pa_cons (pe_callB call_len_seq (by rfl) T.n_len PySem.boot_len (pa_cons (pv 2) pa_nil)) pa_nil)))))
    (pss_cons (ps_set (i := 5) sc_next_place.nd rfl (Or.inl rfl) (pe_ix ix_tup (C8.pe_c c_outside hr (by decide) (by rfl) (pa_cons (pv 0) (pa_cons (pv 2) pa_nil))) (pe_op op_fdiv (pv 3) (pv 4)) (fun _ _ => rfl)))
    (pss_cons (ps_set (i := 6) sc_next_place.nd rfl (Or.inl rfl) (C8.pe_c c_with_server hr (by decide) (by rfl) (pa_cons (pv 2) (pa_cons (pv 5) pa_nil))))
    (pss_one (ps_ret (pe_tup (pa_cons (pv 5) (pa_cons (pv 6) (pa_cons (pe_op op_add (pe_op op_mul (pe_tindex (pv 6) (pv 5)) (pv 4)) (pe_op op_mod (pv 3) (pv 4))) pa_nil))))))))), ?_⟩
  obtain ⟨n, t, a, r, rfl, rfl, rfl, rfl, d, i, ms, o, g, st, hi, hS, q⟩ := h
  have hn2 := g.n2
  have hn6 := g.n6
  have hdn := g.dn
  have hw := g.all.1 i hi
  have he := edg_pos n (by omega) (by omega) i (by omega)
  have hat := st.at g hi
  have hlen := st.len
  walk_at "rd"
  refine ⟨a, ms.map V.int, rfl, .inr hS, ?_⟩
  rw [List.length_map, hlen]
  walk_at "rd"
  refine ⟨by omega, by omega, by omega, by omega, ?_⟩
  walk_at "rd"
  refine ⟨⟨by rw [edg_val (by omega)]; omega, by rw [edg_val (by omega)]; omega⟩, ?_⟩
  dsimp only
  rw [wid_val (by omega)]
  walk_at "rd"
  refine ⟨_, a, ms, rfl, rfl, by omega, hS, fun p H1 sm1 np1 h1 => ?_⟩
  walk_at "rd"
  refine ⟨⟨by omega, by omega⟩, ?_⟩
  refine ⟨p, (oth n ms).map V.int, ((r / wid n t i : Nat) : Int), .int (nxS n t ms r), rfl, by rw [Int.natCast_ediv], SqT.of h1, atI_nat (by rw [List.getElem?_map, hat.2.1]; rfl), ?_⟩
  generalize hs : nxS n t ms r = s at *
  walk_at "rd"
  refine ⟨a, ms, s, rfl, rfl, sSeqT sm1 hS, by omega, st.srt, fun p2 H2 sm2 np2 ⟨ob, oc, od, h2⟩ => ?_⟩
  walk_at "rd"
  refine ⟨p2, ob, ins s ms, rfl, h2, oc, od, ?_⟩
  walk_at "rd"
  refine ⟨h2, (ins_perm s ms).mem_iff.mpr (List.mem_cons_self ..), ?_⟩
  walk_at "rd"
  refine ⟨.inr ⟨by omega, by omega⟩, ?_⟩
  walk_at "rd"
  refine ⟨by omega, ?_⟩
  walk_at "rd"
  refine ⟨by show 3 ≤ sizeLine; decide, fun p3 np3 => ?_⟩
  have sm := sm1.trans sm2
  refine q p3 p2 _ (fun b o e => sNew np3 _ _ (sm _ _ e)) (sm.free np3) ?_ (.inr ⟨ob, sNew np3 _ _ h2⟩)
  rw [upd_same]
  unfold nxR
  rw [hlen]
  simp only [Int.natCast_add, Int.natCast_mul, Int.natCast_emod]
end
end EF
namespace EF
open PySem PySem.Spec PyProof.Rows L2
local macro_rules | `(tactic| walk_at "rd") => `(tactic| repeat (first
  | refine ⟨_, rfl, ?_⟩ | refine ⟨rfl, ?_⟩ | refine ⟨_, _, rfl, ?_⟩ | refine ⟨_, _, rfl, rfl, ?_⟩ | refine ⟨_, _, _, rfl, ?_⟩ | refine ⟨_, _, _, rfl, rfl, rfl, ?_⟩ | refine ⟨_, _, _, _, rfl, ?_⟩ | refine ⟨_, _, _, _, rfl, rfl, rfl, rfl, ?_⟩ | refine ⟨_, _, _, _, _, rfl, ?_⟩))
section
variable {P : Program} {w : World} {K : PySem.W.Frag} {mg : Str → Option Value} {base : Heap}
theorem stt_succ (n t k i : Nat) : stt n t k (i + 1) = (ins (nxS n t (stt n t k i).1 (stt n t k i).2.1) (stt n t k i).1, nxR n t (stt n t k i).1 (stt n t k i).2.1 (nxS n t (stt n t k i).1 (stt n t k i).2.1), (stt n t k i).2.2 ++ [nxS n t (stt n t k i).1 (stt n t k i).2.1]) := rfl
theorem stt_olen {n d t k i : Nat} (g : GoodT n d t) (hk : k < t) (hi : i ≤ d) : (stt n t k i).2.2.length = i := by
  have h := stt_ok g hk i hi
  exact h.perm.length_eq.trans h.len
abbrev sp_walk (K : PySem.W.Frag) : Sp := sp4 fun x y z u H Q => ∃ n d t k : Nat, x = .int n ∧ y = .int d ∧ z = .int t ∧ u = .int k ∧ GoodT n d t ∧ k < t ∧
  ∀ p q v w H', Same H H' → H' p = some (.tup [.ref q, v, w]) → H q = none → TI H' q (ordL n d t k) → Q (.ref p) H'
abbrev N_walk : List Str := ["n", "depth", "count", "number", "order", "members", "rest", "step", "server"]
theorem sc_walk : FnScope N_walk ["n", "depth", "count", "number"] (defScope s_walk) := ⟨rfl, rfl, rfl, by decide +kernel, rfl, by decide +kernel, by decide +kernel⟩
theorem ok_walk (T : Tx K mg) : C8.Cal P w K mg base 6 "walk" (sp_walk K) [] := by
  have c_next_place := ok_next_place (P := P) (w := w) (K := K) (mg := mg) (base := base) T
  have c_is_integer_numbers := ok_is_integer_numbers (P := P) (w := w) (K := K) (mg := mg) (base := base) T
  have c_look_at_count := ok_look_at_count (P := P) (w := w) (K := K) (mg := mg) (base := base) T
  refine calD (k := 5) (N := N_walk) (ps := ["n", "depth", "count", "number"]) T.g_walk T.f_walk (fun _ _ _ _ _ _ us hl => match us, hl with | [_, _, _, _], _ => rfl) sc_walk len4 (fun cdv A outer s H vs Q E hr h => ?_)
  obtain ⟨x1, x2, x3, x4, rfl, h⟩ := h
  refine ⟨_, (pss_cons (ps_expr (C8.pe_c c_look_at_count hr (by decide) (by rfl) (pa_cons (pv 0) (pa_cons (pv 1) (pa_cons (pv 2) pa_nil)))))
    (pss_cons (ps_if (PW.pt (pw_or (pt_not (pt_val (C8.pe_c c_is_integer_numbers hr (by decide) (by rfl) (pa_cons (pv 3) pa_nil)))) (pw_or1 (pt_not (pt_chain op_le op_lt pe_int (pv 3) (pv 2))))))
    (pss_one ps_never)
    pss_nil)
    (pss_cons (ps_par3 (i := 4) (j := 5) (l := 6) rfl sc_walk.nd rfl rfl rfl (by decide) (by decide) (by decide) rfl rfl rfl (pa_cons (pe_lst pa_nil) (pa_cons (pe_tup pa_nil) (pa_cons (pv 3) pa_nil))) (by rfl))
    (pss_cons (ps_for PassesOwn.never rfl (pi_range1 (by rfl) T.n_range (pa_cons (pv 1) pa_nil)) (pg_name (i := 7) sc_walk.nd rfl (Or.inl rfl))
    (pss_cons (ps_asg (C8.pe_c c_next_place hr (by decide) (by rfl) (pa_cons (pv 0) (pa_cons (pv 2) (pa_cons (pv 5) (pa_cons (pv 6) pa_nil))))) (pg_tup rfl (pgs_cons (pg_name (i := 8) sc_walk.nd rfl (Or.inl rfl)) (pgs_cons (pg_name (i := 5) sc_walk.nd rfl (Or.inl rfl)) (pgs_cons (pg_name (i := 6) sc_walk.nd rfl (Or.inl rfl)) pgs_nil)))))
      (pss_one (ps_expr (pe_bm PySem.F.plainAttrs_list PySem.F.slot_list_append PySem.F.type_list_append mt_append (pv 4) (pa_cons (pv 8) pa_nil))))))
    (pss_one (ps_ret (pe_tup (pa_cons (pe_callTy call_tuple_of (by rfl) T.n_tuple (by decide +kernel) (pa_cons (pv 4) pa_nil)) (pa_cons (pv 5) (pa_cons (pv 6) pa_nil)))))))))), ?_⟩
  obtain ⟨n, d, t, k, rfl, rfl, rfl, rfl, g, hk, q⟩ := h
  have hn2 := g.n2
  have hn6 := g.n6
  have hdn := g.dn
  have hd1 := g.d1
  have ht := g.all.2.2.2
  walk_at "rd"
  refine ⟨hn2, hn6, hdn, ht.1, g.dvd, fun H1 sm1 => ?_⟩
  walk_at "rd"
  have c1 : decide ((0 : Int) ≤ (k : Int)) = true := decide_eq_true (by omega)
  have c2 : decide ((k : Int) < (t : Int)) = true := decide_eq_true (by omega)
  refine ifF (by rw [c2]; rfl) ?_
  walk_at "rd"
  refine ⟨Nat.zero_le _, fun lo nlo => ?_⟩
  walk_at "rd"
  refine ⟨Nat.zero_le _, fun a0 na0 => ?_⟩
  walk_at "rd"
  have nla : lo ≠ a0 := fun e => by rw [← e, upd_same] at na0; cases na0
  have nlo0 : H lo = none := sm1.free nlo
  refine ⟨by omega, by omega, for_range (fun i σ H' => Same H H' ∧ LI H' lo (stt n t k i).2.2 ∧ ∃ a v u, SqT K H' a ((stt n t k i).1.map V.int) ∧ σ = [some (.int n), some (.int d), some (.int t), some (.int k), some (.ref lo), some (.ref a), some (.int ((stt n t k i).2.1 : Nat)), v, u])
    ⟨fun b o e => sNew na0 _ _ (sNew nlo _ _ (sm1 _ _ e)), by show (upd _ a0 _) lo = _; rw [upd_ne nla, upd_same]; rfl, a0, none, none, SqT.of upd_same, rfl⟩ ?_ ?_⟩
  · rintro i σ H' hi ⟨sm, hlo, a, v, u, hS, rfl⟩
    have hi2 : i < d := by omega
    have st := stt_ok g hk i (by omega)
    have hol := stt_olen g hk (i := i) (by omega)
    walk_at "rd"
    refine ⟨d, i, _, _, g, st, hi2, hS, fun p q2 H2 sm2 np h1 h2 => ?_⟩
    refine ⟨p, _, rfl, SqT.of h1, rfl, ?_⟩
    walk_at "rd"
    have hlo2 := sm2 _ _ hlo
    refine ⟨.inl ⟨rfl, _, SqL.of hlo2⟩, ?_⟩
    walk_at "rd"
    refine ⟨_, _, _, rfl, rfl, hlo2, by rw [List.length_map, hol]; exact small1000 (by omega), ?_⟩
    rw [stt_succ]
    refine ⟨sPut (sm.trans sm2) nlo0, ?_, q2, _, _, ?_, rfl⟩
    · show (upd _ lo _) lo = _
      rw [upd_same, List.map_append]
      rfl
    · have nq : q2 ≠ lo := fun e => by
        rw [e] at h2
        rcases h2 with h2 | ⟨o, h2⟩ <;> · rw [hlo2] at h2; cases h2
      rcases h2 with h2 | ⟨o, h2⟩
      · exact SqT.of (by rw [upd_ne nq]; exact h2)
      · exact .inl (.inr ⟨o, by rw [upd_ne nq]; exact h2⟩)
  · rintro σ H' ⟨sm, hlo, a, v, u, hS, rfl⟩
    walk_at "rd"
    refine ⟨lo, _, rfl, .inl ⟨SqL.of hlo, fun l nl => ?_⟩⟩
    walk_at "rd"
    refine ⟨by show 3 ≤ sizeLine; decide, fun p np => ?_⟩
    have nlp : l ≠ p := fun e => by rw [← e, upd_same] at np; cases np
    refine q p l _ _ _ (fun b o e => sNew np _ _ (sNew nl _ _ (sm _ _ e))) upd_same (sm.free nl) ?_
    show (upd _ p _) l = _
    rw [upd_ne nlp, upd_same]
    rfl
abbrev sp_list_at (K : PySem.W.Frag) : Sp := sp4 fun x y z u H Q => ∃ n d t k : Nat, x = .int n ∧ y = .int d ∧ z = .int t ∧ u = .int k ∧ GoodT n d t ∧ k < t ∧
  ∀ q H', Same H H' → H q = none → TI H' q (ordL n d t k) → Q (.ref q) H'
abbrev N_list_at : List Str := ["n", "depth", "count", "number"]
theorem sc_list_at : FnScope N_list_at ["n", "depth", "count", "number"] (defScope s_list_at) := ⟨rfl, rfl, rfl, by decide +kernel, rfl, by decide +kernel, by decide +kernel⟩
theorem ok_list_at (T : Tx K mg) : C8.Cal P w K mg base 7 "list_at" (sp_list_at K) [] := by
  have c_walk := ok_walk (P := P) (w := w) (K := K) (mg := mg) (base := base) T
  refine calD (k := 6) (N := N_list_at) (ps := ["n", "depth", "count", "number"]) T.g_list_at T.f_list_at (fun _ _ _ _ _ _ us hl => match us, hl with | [_, _, _, _], _ => rfl) sc_list_at len4 (fun cdv A outer s H vs Q E hr h => ?_)
  obtain ⟨x1, x2, x3, x4, rfl, h⟩ := h
  refine ⟨_, (pss_one (ps_ret (pe_ix ix_tup (C8.pe_c c_walk hr (by decide) (by rfl) (pa_cons (pv 0) (pa_cons (pv 1) (pa_cons (pv 2) (pa_cons (pv 3) pa_nil))))) pe_int (fun _ _ => rfl)))), ?_⟩
  obtain ⟨n, d, t, k, rfl, rfl, rfl, rfl, g, hk, q⟩ := h
  walk_at "rd"
  refine ⟨g, hk, fun p q2 v w H1 sm hp nq hq => ?_⟩
  walk_at "rd"
  refine ⟨p, _, 0, _, rfl, rfl, SqT.of hp, atI_nat (j := 0) rfl, ?_⟩
  exact q q2 _ sm nq hq
end
end EF
namespace EF
open PySem PySem.Spec PyProof.Rows L2
local macro_rules | `(tactic| walk_at "rd") => `(tactic| repeat (first
  | refine ⟨_, rfl, ?_⟩ | refine ⟨rfl, ?_⟩ | refine ⟨_, _, rfl, ?_⟩ | refine ⟨_, _, rfl, rfl, ?_⟩ | refine ⟨_, _, _, rfl, ?_⟩ | refine ⟨_, _, _, rfl, rfl, rfl, ?_⟩ | refine ⟨_, _, _, _, rfl, ?_⟩ | refine ⟨_, _, _, _, rfl, rfl, rfl, rfl, ?_⟩ | refine ⟨_, _, _, _, _, rfl, ?_⟩))
section
variable {P : Program} {w : World} {K : PySem.W.Frag} {mg : Str → Option Value} {base : Heap}
abbrev sp__law_order (K : PySem.W.Frag) : Sp := sp_list_at K
abbrev N__law_order : List Str := ["_law_n", "_law_depth", "_law_total", "_law_number", "_law_members", "_law_rest", "_law_found", "_law_size", "_law_width", "_law_others", "_law_chosen", "_law_one"]
theorem sc__law_order : FnScope N__law_order ["_law_n", "_law_depth", "_law_total", "_law_number"] (defScope s__law_order) := ⟨rfl, rfl, rfl, by decide +kernel, rfl, by decide +kernel, by decide +kernel⟩
theorem ok__law_order (T : Tx K mg) : C8.Cal P w K mg base 2 "_law_order" (sp__law_order K) [] := by
  have c__law_comb := ok__law_comb (P := P) (w := w) (K := K) (mg := mg) (base := base) T
  refine calD (k := 1) (N := N__law_order) (ps := ["_law_n", "_law_depth", "_law_total", "_law_number"]) T.g__law_order T.f__law_order (fun _ _ _ _ _ _ us hl => match us, hl with | [_, _, _, _], _ => rfl) sc__law_order len4 (fun cdv A outer s H vs Q E hr h => ?_)
  obtain ⟨x1, x2, x3, x4, rfl, h⟩ := h
  refine ⟨_, (pss_cons (ps_asg (pe_tup (pa_cons (pe_lst pa_nil) (pa_cons (pv 3) (pa_cons (pe_lst pa_nil) pa_nil)))) (pg_tup rfl (pgs_cons (pg_name (i := 4) sc__law_order.nd rfl (Or.inr rfl)) (pgs_cons (pg_name (i := 5) sc__law_order.nd rfl (Or.inl rfl)) (pgs_cons (pg_name (i := 6) sc__law_order.nd rfl (Or.inl rfl)) pgs_nil)))))
    (pss_cons (ps_for PassesOwn.never rfl (pi_range1 (by rfl) T.n_range (pa_cons (pv 1) pa_nil)) (pg_name (i := 7) sc__law_order.nd rfl (Or.inl rfl))
    (pss_cons (ps_set (i := 8) sc__law_order.nd rfl (Or.inl rfl) (pe_op op_fdiv (pv 2) (pe_op op_mul (pv 0) (C8.pe_c c__law_comb hr (by decide) (by rfl) (pa_cons (pe_op op_sub (pv 0) pe_int) (pa_cons (pv 7) pa_nil))))))
      (pss_cons (ps_setLc (i := 9) (own := [("_law_one", 11)]) (g := gName 11) rfl sc__law_order.nd rfl rfl (sw_true rfl rfl rfl (by decide +kernel)) (pi_range1 (by rfl) T.n_range (pa_cons (pv 0) pa_nil)) (blkOk_by (own := [("_law_one", 11)]) (N := N__law_order) (sc := defScope s__law_order) (by decide +kernel)) (fun _ _ _ _ _ => pg_name (i := 11) sc__law_order.nd rfl (Or.inl rfl)) (fun _ _ _ _ _ => pts_one (pt_cmpR (op_niK (K := K) rfl) (pv 11) (pv 4) (by rfl))) (fun _ _ _ _ _ => (pv 11)))
      (pss_cons (ps_set (i := 10) sc__law_order.nd rfl (Or.inl rfl) (pe_ix (ix_listK (K := K) rfl) (pv 9) (pe_op op_fdiv (pv 5) (pv 8)) (fun _ _ => rfl)))
      (pss_cons (ps_set (i := 4) sc__law_order.nd rfl (Or.inr rfl) (pe_callB cr_sortA (by rfl) T.n_sorted (by decide +kernel) (pa_cons (pe_op op_cat (pv 4) (pe_lst (pa_cons (pv 10) pa_nil))) pa_nil)))
      (pss_cons (ps_set (i := 5) sc__law_order.nd rfl (Or.inl rfl) (pe_op op_add (pe_op op_mul (pv 8) (pe_bm PySem.F.plainAttrs_list PySem.F.slot_list_index PySem.F.type_list_index mt_idxL (pv 4) (pa_cons (pv 10) pa_nil))) (pe_op op_mod (pv 5) (pv 8))))
      (pss_one (ps_expr (pe_bm PySem.F.plainAttrs_list PySem.F.slot_list_append PySem.F.type_list_append mt_append (pv 6) (pa_cons (pv 10) pa_nil))))))))))
    (pss_one (ps_ret (pe_callTy call_tuple_of (by rfl) T.n_tuple (by decide +kernel) (pa_cons (pv 6) pa_nil)))))), ?_⟩
  obtain ⟨n, d, t, k, rfl, rfl, rfl, rfl, g, hk, q⟩ := h
  have hn2 := g.n2
  have hn6 := g.n6
  have hdn := g.dn
  have hd1 := g.d1
  have ht := g.all.2.2.2
  walk_at "rd"
  refine ⟨Nat.zero_le _, fun lm nlm => ?_⟩
  walk_at "rd"
  refine ⟨Nat.zero_le _, fun lf nlf => ?_⟩
  walk_at "rd"
  refine ⟨by show 3 ≤ sizeLine; decide, fun p np => ?_⟩
  have n1 : lm ≠ lf := fun e => by rw [← e, upd_same] at nlf; cases nlf
  have nlf0 : H lf = none := (sNew nlm).free nlf
  have n2 : lm ≠ p := ne_of_none (by rw [upd_ne n1, upd_same]) np
  have n3 : lf ≠ p := ne_of_none upd_same np
  refine ⟨p, _, rfl, SqT.of upd_same, rfl, ?_⟩
  walk_at "rd"
  refine ⟨by omega, by omega, for_range (fun i σ H' => Same H H' ∧ LI H' lf (stt n t k i).2.2 ∧ ∃ m v7 v8 v9 v10, LI H' m (stt n t k i).1 ∧ m ≠ lf ∧ σ = [some (.int n), some (.int d), some (.int t), some (.int k), some (.ref m), some (.int ((stt n t k i).2.1 : Nat)), some (.ref lf), v7, v8, v9, v10, none])
    ⟨fun b o e => sNew np _ _ (sNew nlf _ _ (sNew nlm _ _ e)), by show (upd _ p _) lf = _; rw [upd_ne n3, upd_same]; rfl, lm, none, none, none, none, by show (upd _ p _) lm = _; rw [upd_ne n2, upd_ne n1, upd_same]; rfl, n1, rfl⟩ ?_ ?_⟩
  · rintro i σ H' hi ⟨sm, hlf, m, v7, v8, v9, v10, hm, nmf, rfl⟩
    have hi2 : i < d := by omega
    have st := stt_ok g hk i (by omega)
    have hol := stt_olen g hk (i := i) (by omega)
    have hw := g.all.1 i hi2
    have he := edg_pos n (by omega) (by omega) i (by omega)
    have hat := st.at g hi2
    have hlen := st.len
    rw [stt_succ]
    generalize hms : (stt n t k i).1 = ms at *
    generalize hrr : (stt n t k i).2.1 = r at *
    generalize hoo : (stt n t k i).2.2 = o at *
    walk_at "rd"
    refine ⟨by omega, by omega, by omega, by omega, ?_⟩
    rw [Int.zero_add]
    walk_at "rd"
    refine ⟨.inl ⟨by omega, by omega⟩, ?_⟩
    walk_at "rd"
    refine ⟨⟨by rw [edg_val (by omega)]; omega, by rw [edg_val (by omega)]; omega⟩, ?_⟩
    dsimp only
    rw [wid_val (by omega)]
    walk_at "rd"
    refine ⟨by omega, by omega, fun D nD => lc_range (lo := 0) (n := ((n : Int)).toNat) (fun j H2 => Same H' H2 ∧ LI H2 D (((rng n).take j).filter fun s => !decide (s ∈ ms))) ⟨sNew nD, upd_same⟩ ?_ ?_⟩
    · rintro j H2 hj ⟨sm2, hD⟩
      refine ⟨rfl, ?_⟩
      rw [Int.zero_add]
      have ef := filt_snoc (p := fun s => !decide (s ∈ ms)) (rng_at (n := n) (i := j) (by omega))
      refine ⟨_, rfl, _, rfl, _, _, ms, rfl, rfl, .inl (SqL.of (sm2 _ _ hm)), _, rfl, ite2 (fun c => ?_) (fun c => ?_)⟩
      · rw [if_pos c] at ef
        refine ⟨_, rfl, _, hD, filt_len _ (by omega), sPut sm2 nD, ?_⟩
        show upd H2 D _ D = _
        rw [upd_same, ef, List.map_append]
        rfl
      · rw [if_neg c, List.append_nil] at ef
        refine ⟨sm2, ?_⟩
        show H2 D = _
        rw [ef]
        exact hD
    · rintro H2 ⟨sm2, hD⟩
      have e : (rng n).take ((n : Int)).toNat = rng n := List.take_of_length_le (by rw [rng_len]; omega)
      rw [e] at hD
      have hD2 : LI H2 D (oth n ms) := hD
      walk_at "rd"
      refine ⟨⟨by omega, by omega⟩, ?_⟩
      refine ⟨D, _, ((r / wid n t i : Nat) : Int), .int (nxS n t ms r), rfl, by rw [Int.natCast_ediv], SqL.of hD2, atI_nat (by rw [List.getElem?_map, hat.2.1]; rfl), ?_⟩
      generalize hs : nxS n t ms r = s at *
      walk_at "rd"
      refine ⟨by show 1 ≤ sizeLine; decide, fun b nb => ?_⟩
      have hm2 := sm2 _ _ hm
      have hf2 := sm2 _ _ hlf
      have sb := sNew (o := .lst [.int s]) nb
      walk_at "rd"
      refine ⟨_, _, _, _, rfl, rfl, sb _ _ hm2, upd_same, ?_, fun c nc => ?_⟩
      · rw [List.length_map, List.length_singleton]; exact Nat.le_of_lt (small1000 (by omega))
      have sc := sNew (o := .lst (ms.map V.int ++ [.int s])) nc
      refine ⟨c, ms ++ [s], rfl, .inl (SqL.of (by rw [upd_same, List.map_append]; rfl)), by rw [List.length_append, List.length_singleton]; omega, fun m2 p2 hp2 hsr np2 => ?_⟩
      have em := sort_ins hp2 hsr st.srt
      subst em
      have sp := sNew (o := .lst ((ins s ms).map V.int)) np2
      have smA : Same H' _ := fun b o e => sp _ _ (sc _ _ (sb _ _ (sm2 _ _ e)))
      have hf3 := smA _ _ hlf
      walk_at "rd"
      refine ⟨.inl ⟨rfl, _, SqL.of upd_same⟩, ?_⟩
      walk_at "rd"
      refine ⟨p2, ins s ms, s, rfl, rfl, SqL.of upd_same, (ins_perm s ms).mem_iff.mpr (List.mem_cons_self ..), ?_⟩
      walk_at "rd"
      refine ⟨.inl ⟨by omega, by omega⟩, ?_⟩
      walk_at "rd"
      refine ⟨by omega, ?_⟩
      walk_at "rd"
      refine ⟨.inl ⟨rfl, _, SqL.of hf3⟩, ?_⟩
      walk_at "rd"
      refine ⟨_, _, _, rfl, rfl, hf3, by rw [List.length_map, hol]; exact small1000 (by omega), ?_⟩
      have npf : p2 ≠ lf := fun e => by rw [e] at np2; rw [sc _ _ (sb _ _ hf2)] at np2; cases np2
      have ev : ((nxR n t ms r s : Nat) : Int) = ((wid n t i : Nat) : Int) * (((ins s ms).idxOf s : Nat) : Int) + (r : Int) % ((wid n t i : Nat) : Int) := by
        unfold nxR
        rw [hlen, Nat.mul_comm]
        simp only [Int.natCast_add, Int.natCast_mul, Int.natCast_emod]
      refine ⟨sPut (sm.trans smA) nlf0, ?_, p2, some (.int (i : Int)), some (.int ((wid n t i : Nat) : Int)), some (.ref D), some (.int s), ?_, npf, ?_⟩
      · show (upd _ lf _) lf = _
        rw [upd_same, List.map_append]
        rfl
      · show (upd _ lf _) p2 = _
        rw [upd_ne npf, upd_same]
      · rw [ev]
        rfl
  · rintro σ H' ⟨sm, hlf, m, v7, v8, v9, v10, hm, nmf, rfl⟩
    walk_at "rd"
    refine ⟨lf, _, rfl, .inl ⟨SqL.of hlf, fun l nl => ?_⟩⟩
    exact q l _ (fun b o e => sNew nl _ _ (sm _ _ e)) (sm.free nl) upd_same
end
end EF
namespace EF
open PySem PySem.Spec PyProof.Rows L2
local macro_rules | `(tactic| walk_at "rd") => `(tactic| repeat (first
  | refine ⟨_, rfl, ?_⟩ | refine ⟨rfl, ?_⟩ | refine ⟨_, _, rfl, ?_⟩ | refine ⟨_, _, rfl, rfl, ?_⟩ | refine ⟨_, _, _, rfl, ?_⟩ | refine ⟨_, _, _, rfl, rfl, rfl, ?_⟩ | refine ⟨_, _, _, _, rfl, ?_⟩ | refine ⟨_, _, _, _, rfl, rfl, rfl, rfl, ?_⟩ | refine ⟨_, _, _, _, _, rfl, ?_⟩))
section
variable {P : Program} {w : World} {K : PySem.W.Frag} {mg : Str → Option Value} {base : Heap}
theorem filt_len2 {l : List Int} {i : Nat} (p : Int → Bool) (hn : l.length ≤ 1000) : (((l.take i).filter p).map V.int).length < sizeLine := by
  rw [List.length_map]
  refine small1000 (Nat.le_trans (List.length_filter_le _ _) ?_)
  rw [List.length_take]
  omega
theorem map_at {l : List Int} {i : Nat} {x : V} (h : (l.map V.int)[i]? = some x) : ∃ z, l[i]? = some z ∧ x = .int z := by
  rw [List.getElem?_map] at h
  cases e : l[i]? with
  | none => rw [e] at h; cases h
  | some z => rw [e] at h; exact ⟨z, rfl, (Option.some.inj h).symm⟩
theorem cut_to (xs : List V) (m : Nat) : cutV xs none (some ((m : Nat) : Int)) = xs.take m := by
  unfold cutV
  rw [HT.sIx_none, HT.sIx_nat, List.drop_zero, Nat.sub_zero]
  by_cases h : m ≤ xs.length
  · rw [Nat.min_eq_left h]
  · rw [Nat.min_eq_right (by omega), List.take_of_length_le (Nat.le_refl _), List.take_of_length_le (by omega)]
abbrev sp_live_in (K : PySem.W.Frag) : Sp := sp2 fun x y H Q => ∃ (a b : Addr) (o L : List Int), x = .ref a ∧ y = .ref b ∧ SqT K H a (o.map V.int) ∧ SqT K H b (L.map V.int) ∧ o.length ≤ 1000 ∧ ∀ q H', Same H H' → H q = none → LI H' q (alv o L) → Q (.ref q) H'
abbrev N_live_in : List Str := ["order", "live", "server"]
theorem sc_live_in : FnScope N_live_in ["order", "live"] (defScope s_live_in) := ⟨rfl, rfl, rfl, by decide +kernel, rfl, by decide +kernel, by decide +kernel⟩
theorem ok_live_in (T : Tx K mg) : C8.Cal P w K mg base 1 "live_in" (sp_live_in K) [] := by
  refine calD (k := 0) (N := N_live_in) (ps := ["order", "live"]) T.g_live_in T.f_live_in (fun _ _ _ _ _ _ us hl => match us, hl with | [_, _], _ => rfl) sc_live_in len2 (fun cdv A outer s H vs Q E hr h => ?_)
  obtain ⟨x1, x2, rfl, h⟩ := h
  refine ⟨_, (pss_one (ps_ret (pe_lc (own := [("server", 2)]) (g := gName 2) rfl sc_live_in.nd (pi_tup (pv 0)) (blkOk_by (own := [("server", 2)]) (N := N_live_in) (sc := defScope s_live_in) (by decide +kernel)) (fun _ _ _ _ _ => pg_name (i := 2) sc_live_in.nd rfl (Or.inl rfl)) (fun _ _ _ _ _ => pts_one (pt_cmpR (op_inK (K := K) rfl) (pv 2) (pv 1) (by rfl))) (fun _ _ _ _ _ => (pv 2))))), ?_⟩
  obtain ⟨a, b, o, L, rfl, rfl, hO, hL, hl, q⟩ := h
  walk_at "rd"
  refine ⟨⟨_, hO⟩, fun D nD => lc_tup (K := K) (a := a) (xs := o.map V.int) (fun i H' => Same H H' ∧ LI H' D ((o.take i).filter fun s => decide (s ∈ L))) ⟨sNew nD, upd_same⟩ (fun i H' _ h => sSeqT h.1 hO) ?_ ?_⟩
  · rintro i x H' hi ⟨sm, hD⟩
    obtain ⟨z, hz, rfl⟩ := map_at hi
    refine ⟨rfl, ?_⟩
    have ef := filt_snoc (p := fun s => decide (s ∈ L)) hz
    refine ⟨_, rfl, _, rfl, _, _, L, rfl, rfl, .inr (sSeqT sm hL), _, rfl, ite2 (fun c => ?_) (fun c => ?_)⟩
    · rw [if_pos c] at ef
      refine ⟨_, rfl, _, hD, filt_len2 _ hl, sPut sm nD, ?_⟩
      show upd H' D _ D = _
      rw [upd_same, ef, List.map_append]
      rfl
    · rw [if_neg c, List.append_nil] at ef
      refine ⟨sm, ?_⟩
      show H' D = _
      rw [ef]
      exact hD
  · rintro H' ⟨sm, hD⟩
    rw [List.length_map, List.take_length] at hD
    exact q D _ sm nD hD
abbrev sp_holders (K : PySem.W.Frag) : Sp := sp3 fun x y z H Q => ∃ (a b : Addr) (r : Nat), x = .ref a ∧ y = .ref b ∧ z = .int r ∧ ∃ o L : List Int, SqT K H a (o.map V.int) ∧ SqT K H b (L.map V.int) ∧ o.length ≤ 1000 ∧ L.length ≤ 1000 ∧ o.Nodup ∧ min r L.length ≤ (alv o L).length ∧
  ∀ q H', Same H H' → H q = none → TI H' q (own o L r) → Q (.ref q) H'
abbrev N_holders : List Str := ["order", "live", "factor", "found", "many", "server"]
theorem sc_holders : FnScope N_holders ["order", "live", "factor"] (defScope s_holders) := ⟨rfl, rfl, rfl, by decide +kernel, rfl, by decide +kernel, by decide +kernel⟩
theorem ok_holders (T : Tx K mg) : C8.Cal P w K mg base 1 "holders" (sp_holders K) [] := by
  refine calD (k := 0) (N := N_holders) (ps := ["order", "live", "factor"]) T.g_holders T.f_holders (fun _ _ _ _ _ _ us hl => match us, hl with | [_, _, _], _ => rfl) sc_holders len3 (fun cdv A outer s H vs Q E hr h => ?_)
  obtain ⟨x1, x2, x3, rfl, h⟩ := h
  refine ⟨_, (pss_cons (ps_setLc (i := 3) (own := [("server", 5)]) (g := gName 5) rfl sc_holders.nd rfl rfl (sw_true rfl rfl rfl (by decide +kernel)) (pi_tup (pv 0)) (blkOk_by (own := [("server", 5)]) (N := N_holders) (sc := defScope s_holders) (by decide +kernel)) (fun _ _ _ _ _ => pg_name (i := 5) sc_holders.nd rfl (Or.inl rfl)) (fun _ _ _ _ _ => pts_one (pt_cmpR (op_inK (K := K) rfl) (pv 5) (pv 1) (by rfl))) (fun _ _ _ _ _ => (pv 5)))
    (pss_cons (ps_set (i := 4) sc_holders.nd rfl (Or.inl rfl) (pe_callB (call_min2 rfl) (by rfl) T.n_min (by decide +kernel) (pa_cons (pv 2) (pa_cons (pe_callB call_len_seq (by rfl) T.n_len PySem.boot_len (pa_cons (pv 1) pa_nil)) pa_nil))))
    (pss_cons (ps_if (pt_cmpR op_lt (pe_callB call_len_seq (by rfl) T.n_len PySem.boot_len (pa_cons (pv 3) pa_nil)) (pv 4) (nomark _))
    (pss_one ps_never)
    pss_nil)
    (pss_one (ps_ret (pe_callTy call_tuple_of (by rfl) T.n_tuple (by decide +kernel) (pa_cons (pe_slice sl_list (pv 3) po_none (po_some (pv 4))) pa_nil))))))), ?_⟩
  obtain ⟨a, b, r, rfl, rfl, rfl, o, L, hO, hL, hl, hl2, hnd, hen, q⟩ := h
  walk_at "rd"
  refine ⟨⟨_, hO⟩, fun D nD => lc_tup (K := K) (a := a) (xs := o.map V.int) (fun i H' => Same H H' ∧ LI H' D ((o.take i).filter fun s => decide (s ∈ L))) ⟨sNew nD, upd_same⟩ (fun i H' _ h => sSeqT h.1 hO) ?_ ?_⟩
  · rintro i x H' hi ⟨sm, hD⟩
    obtain ⟨z, hz, rfl⟩ := map_at hi
    refine ⟨rfl, ?_⟩
    have ef := filt_snoc (p := fun s => decide (s ∈ L)) hz
    refine ⟨_, rfl, _, rfl, _, _, L, rfl, rfl, .inr (sSeqT sm hL), _, rfl, ite2 (fun c => ?_) (fun c => ?_)⟩
    · rw [if_pos c] at ef
      refine ⟨_, rfl, _, hD, filt_len2 _ hl, sPut sm nD, ?_⟩
      show upd H' D _ D = _
      rw [upd_same, ef, List.map_append]
      rfl
    · rw [if_neg c, List.append_nil] at ef
      refine ⟨sm, ?_⟩
      show H' D = _
      rw [ef]
      exact hD
  · rintro H' ⟨sm, hD⟩
    rw [List.length_map, List.take_length] at hD
    have hD2 : LI H' D (alv o L) := hD
    walk_at "rd"
    refine ⟨b, _, rfl, .inr (sSeqT sm hL), ?_⟩
    rw [List.length_map]
    walk_at "rd"
    refine ⟨D, _, rfl, .inl (SqL.of hD2), ?_⟩
    rw [List.length_map]
    walk_at "rd"
    have em : (if (L.length : Int) < (r : Int) then (L.length : Int) else (r : Int)) = ((min r L.length : Nat) : Int) := by split <;> omega
    rw [em]
    refine ifF (decide_eq_false (by omega)) ?_
    walk_at "rd"
    refine ⟨D, _, rfl, SqL.of hD2, fun p np => ?_⟩
    rw [cut_to]
    refine ⟨p, _, rfl, .inl ⟨SqL.of upd_same, fun l nl => ?_⟩⟩
    refine q l _ (fun b o e => sNew nl _ _ (sNew np _ _ (sm _ _ e))) (sm.free ((sNew np).free nl)) ?_
    show upd _ l _ l = _
    rw [upd_same, ← List.map_take, take_min (alv_le hnd)]
    rfl
/-- the server that would receive a copy -/
def sucV (o L : List Int) (r : Nat) (z : Int) : V := if z ∈ (alv o L).take r then .int ((alv o L).getD r 0) else .non
abbrev sp_successor_failures (K : PySem.W.Frag) : Sp := sp4 fun x y z u H Q => ∃ (a b : Addr) (r : Nat) (e : Int), x = .ref a ∧ y = .ref b ∧ z = .int r ∧ u = .int e ∧ ∃ o L : List Int, SqT K H a (o.map V.int) ∧ SqT K H b (L.map V.int) ∧ o.length ≤ 1000 ∧ r < (alv o L).length ∧
  ∀ H', Same H H' → Q (sucV o L r e) H'
abbrev N_successor_failures : List Str := ["order", "live", "factor", "failed", "some"]
theorem sc_successor_failures : FnScope N_successor_failures ["order", "live", "factor", "failed"] (defScope s_successor_failures) := ⟨rfl, rfl, rfl, by decide +kernel, rfl, by decide +kernel, by decide +kernel⟩
theorem ok_successor_failures (T : Tx K mg) : C8.Cal P w K mg base 2 "successor_failures" (sp_successor_failures K) [] := by
  have c_live_in := ok_live_in (P := P) (w := w) (K := K) (mg := mg) (base := base) T
  refine calD (k := 1) (N := N_successor_failures) (ps := ["order", "live", "factor", "failed"]) T.g_successor_failures T.f_successor_failures (fun _ _ _ _ _ _ us hl => match us, hl with | [_, _, _, _], _ => rfl) sc_successor_failures len4 (fun cdv A outer s H vs Q E hr h => ?_)
  obtain ⟨x1, x2, x3, x4, rfl, h⟩ := h
  refine ⟨_, (pss_cons (ps_set (i := 4) sc_successor_failures.nd rfl (Or.inl rfl) (C8.pe_c c_live_in hr (by decide) (by rfl) (pa_cons (pv 0) (pa_cons (pv 1) pa_nil))))
    (pss_cons (ps_if (pt_cmpR op_le (pe_callB call_len_seq (by rfl) T.n_len PySem.boot_len (pa_cons (pv 4) pa_nil)) (pv 2) (nomark _))
    (pss_one ps_never)
    pss_nil)
    (pss_one (ps_ret (pe_ifExp (pt_cmpR (op_inK (K := K) rfl) (pv 3) (pe_slice sl_list (pv 4) po_none (po_some (pv 2))) (by rfl)) (pe_ix (ix_listK (K := K) rfl) (pv 4) (pv 2) (fun _ _ => rfl)) pe_non))))), ?_⟩
  obtain ⟨a, b, r, e, rfl, rfl, rfl, rfl, o, L, hO, hL, hl, hr2, q⟩ := h
  walk_at "rd"
  refine ⟨a, b, o, L, rfl, rfl, hO, hL, hl, fun D H' sm nD hD => ?_⟩
  walk_at "rd"
  refine ⟨D, _, rfl, .inl (SqL.of hD), ?_⟩
  rw [List.length_map]
  walk_at "rd"
  refine ifF (decide_eq_false (by omega)) ?_
  walk_at "rd"
  refine ⟨D, _, rfl, SqL.of hD, fun p np => ?_⟩
  rw [cut_to, ← List.map_take]
  have sp := sNew (o := .lst (((alv o L).take r).map V.int)) np
  refine ⟨_, _, (alv o L).take r, rfl, rfl, .inl (SqL.of upd_same), _, rfl, ite2 (fun c => ?_) (fun c => ?_)⟩
  · walk_at "rd"
    refine ⟨D, _, (r : Int), .int ((alv o L).getD r 0), rfl, rfl, SqL.of (sp _ _ hD), atI_nat (by rw [List.getElem?_map, List.getD_eq_getElem?_getD, List.getElem?_eq_getElem hr2]; rfl), ?_⟩
    have := q _ (sm.trans sp)
    unfold sucV at this
    rw [if_pos (of_decide_eq_true c)] at this
    exact this
  · walk_at "rd"
    have := q _ (sm.trans sp)
    unfold sucV at this
    rw [if_neg (fun z => c (decide_eq_true z))] at this
    exact this
end
end EF
namespace EF
open PySem PySem.Spec PyProof.Rows L2
local macro_rules | `(tactic| walk_at "rd") => `(tactic| repeat (first
  | refine ⟨_, rfl, ?_⟩ | refine ⟨rfl, ?_⟩ | refine ⟨_, _, rfl, ?_⟩ | refine ⟨_, _, rfl, rfl, ?_⟩ | refine ⟨_, _, _, rfl, ?_⟩ | refine ⟨_, _, _, rfl, rfl, rfl, ?_⟩ | refine ⟨_, _, _, _, rfl, ?_⟩ | refine ⟨_, _, _, _, rfl, rfl, rfl, rfl, ?_⟩ | refine ⟨_, _, _, _, _, rfl, ?_⟩))
section
variable {P : Program} {w : World} {K : PySem.W.Frag} {mg : Str → Option Value} {base : Heap}
/-- addresses of int tuples -/
def PT (H : Hp) : List Addr → List (List Int) → Prop
  | [], [] => True
  | p :: ps, o :: os => TI H p o ∧ PT H ps os
  | _, _ => False
theorem PT.snoc {H : Hp} {p : Addr} {o : List Int} (h : TI H p o) : ∀ {ps : List Addr} {os : List (List Int)}, PT H ps os → PT H (ps ++ [p]) (os ++ [o])
  | [], [], _ => ⟨h, trivial⟩
  | _ :: _, _ :: _, ⟨a, b⟩ => ⟨a, PT.snoc h b⟩
  | [], _ :: _, h => h.elim
  | _ :: _, [], h => h.elim
theorem PT.up {H H' : Hp} (k : ∀ b xs, H b = some (.tup xs) → H' b = some (.tup xs)) : ∀ {ps : List Addr} {os : List (List Int)}, PT H ps os → PT H' ps os
  | [], [], _ => trivial
  | _ :: _, _ :: _, ⟨a, b⟩ => ⟨k _ _ a, PT.up k b⟩
  | [], _ :: _, h => h.elim
  | _ :: _, [], h => h.elim
theorem PT.len {H : Hp} : ∀ {ps : List Addr} {os : List (List Int)}, PT H ps os → ps.length = os.length
  | [], [], _ => rfl
  | _ :: _, _ :: _, ⟨_, b⟩ => congrArg (· + 1) (PT.len b)
  | [], _ :: _, h => h.elim
  | _ :: _, [], h => h.elim
theorem PT.at {H : Hp} : ∀ {ps : List Addr} {os : List (List Int)} {i : Nat} {p : Addr}, PT H ps os → ps[i]? = some p → ∃ o, os[i]? = some o ∧ TI H p o
  | _ :: _, _ :: _, 0, _, ⟨a, _⟩, e => by cases e; exact ⟨_, rfl, a⟩
  | _ :: _, _ :: _, i + 1, _, ⟨_, b⟩, e => PT.at (i := i) b e
  | [], [], _, _, _, e => by simp at e
  | [], _ :: _, _, _, h, _ => h.elim
  | _ :: _, [], _, _, h, _ => h.elim
/-- tuples stand where all but the changed lists stand -/
theorem tupKeep {H H' : Hp} {D : Addr} {o xs : List V} (sm : Same H H') (hD : H' D = some (.lst xs)) : ∀ b ys, H b = some (.tup ys) → (upd H' D (.lst o)) b = some (.tup ys) := fun b ys e => by
  have h2 := sm _ _ e
  rw [upd_ne (ne_of h2 hD (by intro z; cases z))]
  exact h2
/-- a list of int tuples -/
def LT (H : Hp) (q : Addr) (os : List (List Int)) : Prop := ∃ ps : List Addr, H q = some (.lst (ps.map V.ref)) ∧ PT H ps os
abbrev sp__law_alive (K : PySem.W.Frag) : Sp := sp_live_in K
abbrev N__law_alive : List Str := ["_law_order_here", "_law_up_here", "_law_one"]
theorem sc__law_alive : FnScope N__law_alive ["_law_order_here", "_law_up_here"] (defScope s__law_alive) := ⟨rfl, rfl, rfl, by decide +kernel, rfl, by decide +kernel, by decide +kernel⟩
theorem ok__law_alive (T : Tx K mg) : C8.Cal P w K mg base 1 "_law_alive" (sp__law_alive K) [] := by
  refine calD (k := 0) (N := N__law_alive) (ps := ["_law_order_here", "_law_up_here"]) T.g__law_alive T.f__law_alive (fun _ _ _ _ _ _ us hl => match us, hl with | [_, _], _ => rfl) sc__law_alive len2 (fun cdv A outer s H vs Q E hr h => ?_)
  obtain ⟨x1, x2, rfl, h⟩ := h
  refine ⟨_, (pss_one (ps_ret (pe_lc (own := [("_law_one", 2)]) (g := gName 2) rfl sc__law_alive.nd (pi_tup (pv 0)) (blkOk_by (own := [("_law_one", 2)]) (N := N__law_alive) (sc := defScope s__law_alive) (by decide +kernel)) (fun _ _ _ _ _ => pg_name (i := 2) sc__law_alive.nd rfl (Or.inl rfl)) (fun _ _ _ _ _ => pts_one (pt_cmpR (op_inK (K := K) rfl) (pv 2) (pv 1) (by rfl))) (fun _ _ _ _ _ => (pv 2))))), ?_⟩
  obtain ⟨a, b, o, L, rfl, rfl, hO, hL, hl, q⟩ := h
  walk_at "rd"
  refine ⟨⟨_, hO⟩, fun D nD => lc_tup (K := K) (a := a) (xs := o.map V.int) (fun i H' => Same H H' ∧ LI H' D ((o.take i).filter fun s => decide (s ∈ L))) ⟨sNew nD, upd_same⟩ (fun i H' _ h => sSeqT h.1 hO) ?_ ?_⟩
  · rintro i x H' hi ⟨sm, hD⟩
    obtain ⟨z, hz, rfl⟩ := map_at hi
    refine ⟨rfl, ?_⟩
    have ef := filt_snoc (p := fun s => decide (s ∈ L)) hz
    refine ⟨_, rfl, _, rfl, _, _, L, rfl, rfl, .inr (sSeqT sm hL), _, rfl, ite2 (fun c => ?_) (fun c => ?_)⟩
    · rw [if_pos c] at ef
      refine ⟨_, rfl, _, hD, filt_len2 _ hl, sPut sm nD, ?_⟩
      show upd H' D _ D = _
      rw [upd_same, ef, List.map_append]
      rfl
    · rw [if_neg c, List.append_nil] at ef
      refine ⟨sm, ?_⟩
      show H' D = _
      rw [ef]
      exact hD
  · rintro H' ⟨sm, hD⟩
    rw [List.length_map, List.take_length] at hD
    exact q D _ sm nD hD
abbrev sp__law_owned (K : PySem.W.Frag) : Sp := sp3 fun x y z H Q => ∃ (a b : Addr) (r : Nat), x = .ref a ∧ y = .ref b ∧ z = .int r ∧ ∃ o L : List Int, SqT K H a (o.map V.int) ∧ SqT K H b (L.map V.int) ∧ o.length ≤ 1000 ∧ ∀ q H', Same H H' → H q = none → TI H' q (own o L r) → Q (.ref q) H'
abbrev N__law_owned : List Str := ["_law_order_here", "_law_up_here", "_law_copies_of"]
theorem sc__law_owned : FnScope N__law_owned ["_law_order_here", "_law_up_here", "_law_copies_of"] (defScope s__law_owned) := ⟨rfl, rfl, rfl, by decide +kernel, rfl, by decide +kernel, by decide +kernel⟩
theorem ok__law_owned (T : Tx K mg) : C8.Cal P w K mg base 2 "_law_owned" (sp__law_owned K) [] := by
  have c__law_alive := ok__law_alive (P := P) (w := w) (K := K) (mg := mg) (base := base) T
  refine calD (k := 1) (N := N__law_owned) (ps := ["_law_order_here", "_law_up_here", "_law_copies_of"]) T.g__law_owned T.f__law_owned (fun _ _ _ _ _ _ us hl => match us, hl with | [_, _, _], _ => rfl) sc__law_owned len3 (fun cdv A outer s H vs Q E hr h => ?_)
  obtain ⟨x1, x2, x3, rfl, h⟩ := h
  refine ⟨_, (pss_one (ps_ret (pe_callTy call_tuple_of (by rfl) T.n_tuple (by decide +kernel) (pa_cons (pe_slice sl_list (C8.pe_c c__law_alive hr (by decide) (by rfl) (pa_cons (pv 0) (pa_cons (pv 1) pa_nil))) po_none (po_some (pv 2))) pa_nil)))), ?_⟩
  obtain ⟨a, b, r, rfl, rfl, rfl, o, L, hO, hL, hl, q⟩ := h
  walk_at "rd"
  refine ⟨a, b, o, L, rfl, rfl, hO, hL, hl, fun D H' sm nD hD => ?_⟩
  walk_at "rd"
  refine ⟨D, _, rfl, SqL.of hD, fun p np => ?_⟩
  rw [cut_to]
  refine ⟨p, _, rfl, .inl ⟨SqL.of upd_same, fun l nl => ?_⟩⟩
  refine q l _ (fun b o e => sNew nl _ _ (sNew np _ _ (sm _ _ e))) (sm.free ((sNew np).free nl)) ?_
  show upd _ l _ l = _
  rw [upd_same, ← List.map_take]
  rfl
abbrev sp__law_up (K : PySem.W.Frag) : Sp := sp2 fun x y H Q => ∃ (n : Nat) (a : Addr) (ms : List Int), x = .int n ∧ y = .ref a ∧ n ≤ 6 ∧ SqL K H a (ms.map V.int) ∧ ∀ p H', Same H H' → H p = none → TI H' p (oth n ms) → Q (.ref p) H'
abbrev N__law_up : List Str := ["_law_n", "_law_gone", "_law_one"]
theorem sc__law_up : FnScope N__law_up ["_law_n", "_law_gone"] (defScope s__law_up) := ⟨rfl, rfl, rfl, by decide +kernel, rfl, by decide +kernel, by decide +kernel⟩
theorem ok__law_up (T : Tx K mg) : C8.Cal P w K mg base 1 "_law_up" (sp__law_up K) [] := by
  refine calD (k := 0) (N := N__law_up) (ps := ["_law_n", "_law_gone"]) T.g__law_up T.f__law_up (fun _ _ _ _ _ _ us hl => match us, hl with | [_, _], _ => rfl) sc__law_up len2 (fun cdv A outer s H vs Q E hr h => ?_)
  obtain ⟨x1, x2, rfl, h⟩ := h
  refine ⟨_, (pss_one (ps_ret (pe_callTy call_tuple_of (by rfl) T.n_tuple (by decide +kernel) (pa_cons (pe_lc (own := [("_law_one", 2)]) (g := gName 2) rfl sc__law_up.nd (pi_range1 (by rfl) T.n_range (pa_cons (pv 0) pa_nil)) (blkOk_by (own := [("_law_one", 2)]) (N := N__law_up) (sc := defScope s__law_up) (by decide +kernel)) (fun _ _ _ _ _ => pg_name (i := 2) sc__law_up.nd rfl (Or.inl rfl)) (fun _ _ _ _ _ => pts_one (pt_cmpR (op_niK (K := K) rfl) (pv 2) (pv 1) (by rfl))) (fun _ _ _ _ _ => (pv 2))) pa_nil)))), ?_⟩
  obtain ⟨n, a, ms, rfl, rfl, h1, hS, q⟩ := h
  walk_at "rd"
  refine ⟨by omega, by omega, fun D nD => lc_range (lo := 0) (n := ((n : Int)).toNat) (fun i H' => Same H H' ∧ LI H' D (((rng n).take i).filter fun s => !decide (s ∈ ms))) ⟨sNew nD, upd_same⟩ ?_ ?_⟩
  · rintro i H' hi ⟨sm, hD⟩
    have hi2 : i < n := by omega
    refine ⟨rfl, ?_⟩
    rw [Int.zero_add]
    have ef := filt_snoc (p := fun s => !decide (s ∈ ms)) (rng_at hi2)
    refine ⟨_, rfl, _, rfl, _, _, ms, rfl, rfl, .inl (sm.seq hS), _, rfl, ite2 (fun c => ?_) (fun c => ?_)⟩
    · rw [if_pos c] at ef
      refine ⟨_, rfl, _, hD, filt_len _ (by omega), sPut sm nD, ?_⟩
      show upd H' D _ D = _
      rw [upd_same, ef, List.map_append]
      rfl
    · rw [if_neg c, List.append_nil] at ef
      refine ⟨sm, ?_⟩
      show H' D = _
      rw [ef]
      exact hD
  · rintro H' ⟨sm, hD⟩
    have e : (rng n).take ((n : Int)).toNat = rng n := List.take_of_length_le (by rw [rng_len]; omega)
    rw [e] at hD
    refine ⟨D, _, rfl, .inl ⟨SqL.of hD, fun l nl => ?_⟩⟩
    exact q l _ (fun b o e => sNew nl _ _ (sm _ _ e)) (sm.free nl) upd_same
/-- all lists -/
def ordsL (n d t : Nat) : List (List Int) := (List.range t).map (ordL n d t)
theorem ords_at {n d t i : Nat} (h : i < t) : (ordsL n d t)[i]? = some (ordL n d t i) := by
  unfold ordsL
  rw [List.getElem?_map, List.getElem?_range h]; rfl
theorem ords_len (n d t : Nat) : (ordsL n d t).length = t := by unfold ordsL; rw [List.length_map, List.length_range]
abbrev sp__law_orders (K : PySem.W.Frag) : Sp := sp1 fun x H Q => ∃ (a : Addr) (n f r t : Nat), x = .ref a ∧ H a = some (.tup [.int n, .int f, .int r, .int t]) ∧ Good n f r t ∧ ∀ q H', Same H H' → H q = none → LT H' q (ordsL n (min n (f + r)) t) → Q (.ref q) H'
abbrev N__law_orders : List Str := ["_law_sizes_here", "_law_n", "_law_down", "_law_copies_of", "_law_total", "_law_number"]
theorem sc__law_orders : FnScope N__law_orders ["_law_sizes_here"] (defScope s__law_orders) := ⟨rfl, rfl, rfl, by decide +kernel, rfl, by decide +kernel, by decide +kernel⟩
theorem ok__law_orders (T : Tx K mg) : C8.Cal P w K mg base 3 "_law_orders" (sp__law_orders K) [] := by
  have c__law_order := ok__law_order (P := P) (w := w) (K := K) (mg := mg) (base := base) T
  refine calD (k := 2) (N := N__law_orders) (ps := ["_law_sizes_here"]) T.g__law_orders T.f__law_orders (fun _ _ _ _ _ _ us hl => match us, hl with | [_], _ => rfl) sc__law_orders len1 (fun cdv A outer s H vs Q E hr h => ?_)
  obtain ⟨x1, rfl, h⟩ := h
  refine ⟨_, (pss_cons (ps_asg (pv 0) (pg_tup rfl (pgs_cons (pg_name (i := 1) sc__law_orders.nd rfl (Or.inr rfl)) (pgs_cons (pg_name (i := 2) sc__law_orders.nd rfl (Or.inr rfl)) (pgs_cons (pg_name (i := 3) sc__law_orders.nd rfl (Or.inr rfl)) (pgs_cons (pg_name (i := 4) sc__law_orders.nd rfl (Or.inr rfl)) pgs_nil))))))
    (pss_one (ps_ret (pe_lc (own := [("_law_number", 5)]) (g := gName 5) (tt := tYes) rfl sc__law_orders.nd (pi_range1 (by rfl) T.n_range (pa_cons (pv 4) pa_nil)) (blkOk_by (own := [("_law_number", 5)]) (N := N__law_orders) (sc := defScope s__law_orders) (by decide +kernel)) (fun _ _ _ _ _ => pg_name (i := 5) sc__law_orders.nd rfl (Or.inl rfl)) (fun _ _ _ _ _ => pts_nil) (fun _ _ _ _ _ => (C8.pe_c c__law_order hr (by decide) (by rfl) (pa_cons (pv 1) (pa_cons (pe_callB (call_min2 rfl) (by rfl) T.n_min (by decide +kernel) (pa_cons (pv 1) (pa_cons (pe_op op_add (pv 2) (pv 3)) pa_nil))) (pa_cons (pv 4) (pa_cons (pv 5) pa_nil)))))))))), ?_⟩
  obtain ⟨a, n, f, r, t, rfl, hA, g, q⟩ := h
  have ht := g.gt.all.2.2.2
  walk_at "rd"
  refine ⟨_, _, rfl, SqT.of hA, rfl, ?_⟩
  walk_at "rd"
  refine ⟨by omega, by omega, fun D nD => lc_range (lo := 0) (n := ((t : Int)).toNat) (fun i H' => Same H H' ∧ LT H' D ((ordsL n (min n (f + r)) t).take i)) ⟨sNew nD, [], upd_same, trivial⟩ ?_ ?_⟩
  · rintro i H' hi ⟨sm, ps, hD, hp⟩
    have hi2 : i < t := by omega
    refine ⟨rfl, ?_⟩
    rw [Int.zero_add]
    walk_at "rd"
    have em : (if (f : Int) + (r : Int) < (n : Int) then (f : Int) + (r : Int) else (n : Int)) = ((min n (f + r) : Nat) : Int) := by split <;> omega
    rw [em]
    refine ⟨n, min n (f + r), t, i, rfl, rfl, rfl, rfl, g.gt, hi2, fun p H2 sm2 np hT => ?_⟩
    have hl := hp.len
    rw [List.length_take, ords_len] at hl
    have hD2 := sm2 _ _ hD
    refine ⟨_, hD2, by rw [List.length_map, hl]; exact small1000 (by omega), sPut (sm.trans sm2) nD, ps ++ [p], ?_, ?_⟩
    · rw [upd_same, List.map_append]; rfl
    · rw [take_snoc (ords_at hi2)]
      refine PT.snoc ?_ (hp.up (tupKeep sm2 hD2))
      exact tupKeep (Same.refl _) hD2 _ _ hT
  · rintro H' ⟨sm, h⟩
    have e : (ordsL n (min n (f + r)) t).take ((t : Int)).toNat = ordsL n (min n (f + r)) t := List.take_of_length_le (by rw [ords_len]; omega)
    rw [e] at h
    exact q D _ sm nD h
end
end EF
namespace EF
open PySem PySem.Spec PyProof.Rows L2
local macro_rules | `(tactic| walk_at "rd") => `(tactic| repeat (first
  | refine ⟨_, rfl, ?_⟩ | refine ⟨rfl, ?_⟩ | refine ⟨_, _, rfl, ?_⟩ | refine ⟨_, _, rfl, rfl, ?_⟩ | refine ⟨_, _, _, rfl, ?_⟩ | refine ⟨_, _, _, rfl, rfl, rfl, ?_⟩ | refine ⟨_, _, _, _, rfl, ?_⟩ | refine ⟨_, _, _, _, rfl, rfl, rfl, rfl, ?_⟩ | refine ⟨_, _, _, _, _, rfl, ?_⟩))
section
variable {P : Program} {w : World} {K : PySem.W.Frag} {mg : Str → Option Value} {base : Heap}
/-! ### a cluster in the heap -/
structure CA where
  c : Addr
  dd : Addr
  dl : Addr
def flds (n f r t : Nat) (dd dl : Addr) : List (Str × V) :=
  [("depth", .int (min n (f + r) : Nat)), ("n", .int n), ("failures", .int f), ("factor", .int r), ("count", .int t), ("dead", .ref dd), ("done", .ref dl)]
theorem putF_new {f : Str} {v : V} : ∀ {l : List (Str × V)}, (∀ g ∈ l.map (·.1), g ≠ f) → putF f v l = l ++ [(f, v)]
  | [], _ => rfl
  | (g, x) :: l, h => by
    have h1 : ¬ g = f := h g (List.mem_cons_self ..)
    have h2 := putF_new (f := f) (v := v) (l := l) fun g hg => h g (List.mem_cons_of_mem _ hg)
    show (if g = f then (g, v) :: l else (g, x) :: putF f v l) = _
    rw [if_neg h1, h2]; rfl
theorem putF_at {f : Str} {v x : V} {m : List (Str × V)} : ∀ {l : List (Str × V)}, (∀ g ∈ l.map (·.1), g ≠ f) → putF f v (l ++ (f, x) :: m) = l ++ (f, v) :: m
  | [], _ => by
    show (if f = f then (f, v) :: m else _) = _
    rw [if_pos rfl]; rfl
  | (g, y) :: l, h => by
    have h1 : ¬ g = f := h g (List.mem_cons_self ..)
    have h2 := putF_at (f := f) (v := v) (x := x) (m := m) (l := l) fun g hg => h g (List.mem_cons_of_mem _ hg)
    show (if g = f then (g, v) :: _ else (g, y) :: putF f v (l ++ (f, x) :: m)) = _
    rw [if_neg h1, h2]; rfl
theorem look_at {f : Str} {x : V} {m : List (Str × V)} : ∀ {l : List (Str × V)}, (∀ g ∈ l.map (·.1), g ≠ f) → (l ++ (f, x) :: m).lookup f = some x
  | [], _ => by show List.lookup f ((f, x) :: m) = _; rw [List.lookup_cons, beq_self_eq_true]
  | (g, y) :: l, h => by
    have h1 : ¬ f = g := fun e => h g (List.mem_cons_self ..) e.symm
    show List.lookup f ((g, y) :: (l ++ (f, x) :: m)) = _
    rw [List.lookup_cons, beq_eq_false_iff_ne.mpr h1]
    exact look_at fun g hg => h g (List.mem_cons_of_mem _ hg)
theorem look_no {f : Str} : ∀ {l : List (Str × V)}, (∀ g ∈ l.map (·.1), g ≠ f) → l.lookup f = none
  | [], _ => rfl
  | (g, y) :: l, h => by
    have h1 : ¬ f = g := fun e => h g (List.mem_cons_self ..) e.symm
    rw [List.lookup_cons, beq_eq_false_iff_ne.mpr h1]
    exact look_no fun g hg => h g (List.mem_cons_of_mem _ hg)
abbrev fKeys : List Str := ["depth", "n", "failures", "factor", "count", "dead", "done"]
section
variable {n f r t : Nat} {dd dl d2 : Addr}
theorem fl_keys : (flds n f r t dd dl).map (·.1) = fKeys := rfl
theorem fl_len : (flds n f r t dd dl).length < 1000 := by show 7 < 1000; decide
theorem fl_depth : (flds n f r t dd dl).lookup ("depth" : Str) = some (V.int (min n (f + r) : Nat)) := look_at (l := []) (by decide +kernel)
theorem fl_n : (flds n f r t dd dl).lookup ("n" : Str) = some (V.int n) := look_at (l := [("depth", V.int (min n (f + r) : Nat))]) (show ∀ g ∈ (["depth"] : List Str), g ≠ "n" by decide +kernel)
theorem fl_failures : (flds n f r t dd dl).lookup ("failures" : Str) = some (V.int f) := look_at (l := [("depth", V.int (min n (f + r) : Nat)), ("n", V.int n)]) (show ∀ g ∈ (["depth", "n"] : List Str), g ≠ "failures" by decide +kernel)
theorem fl_factor : (flds n f r t dd dl).lookup ("factor" : Str) = some (V.int r) := look_at (l := [("depth", V.int (min n (f + r) : Nat)), ("n", V.int n), ("failures", V.int f)]) (show ∀ g ∈ (["depth", "n", "failures"] : List Str), g ≠ "factor" by decide +kernel)
theorem fl_count : (flds n f r t dd dl).lookup ("count" : Str) = some (V.int t) := look_at (l := [("depth", V.int (min n (f + r) : Nat)), ("n", V.int n), ("failures", V.int f), ("factor", V.int r)]) (show ∀ g ∈ (["depth", "n", "failures", "factor"] : List Str), g ≠ "count" by decide +kernel)
theorem fl_dead : (flds n f r t dd dl).lookup ("dead" : Str) = some (V.ref dd) := look_at (l := [("depth", V.int (min n (f + r) : Nat)), ("n", V.int n), ("failures", V.int f), ("factor", V.int r), ("count", V.int t)]) (show ∀ g ∈ (["depth", "n", "failures", "factor", "count"] : List Str), g ≠ "dead" by decide +kernel)
theorem fl_done : (flds n f r t dd dl).lookup ("done" : Str) = some (V.ref dl) := look_at (l := [("depth", V.int (min n (f + r) : Nat)), ("n", V.int n), ("failures", V.int f), ("factor", V.int r), ("count", V.int t), ("dead", V.ref dd)]) (show ∀ g ∈ (["depth", "n", "failures", "factor", "count", "dead"] : List Str), g ≠ "done" by decide +kernel)
theorem fl_no {m : Str} (h : (fKeys.all fun g => decide (g ≠ m)) = true) : (flds n f r t dd dl).lookup m = none := look_no fun g hg => by
  rw [fl_keys] at hg
  exact of_decide_eq_true (List.all_eq_true.mp h g hg)
theorem fl_putdead : putF "dead" (V.ref d2) (flds n f r t dd dl) = flds n f r t d2 dl := putF_at (l := [("depth", V.int (min n (f + r) : Nat)), ("n", V.int n), ("failures", V.int f), ("factor", V.int r), ("count", V.int t)]) (show ∀ g ∈ (["depth", "n", "failures", "factor", "count"] : List Str), g ≠ "dead" by decide +kernel)
theorem fl_putdone : putF "done" (V.ref d2) (flds n f r t dd dl) = flds n f r t dd d2 := putF_at (l := [("depth", V.int (min n (f + r) : Nat)), ("n", V.int n), ("failures", V.int f), ("factor", V.int r), ("count", V.int t), ("dead", V.ref dd)]) (show ∀ g ∈ (["depth", "n", "failures", "factor", "count", "dead"] : List Str), g ≠ "done" by decide +kernel)
theorem fl_made : putF "done" (V.ref dl) (putF "dead" (V.ref dd) (putF "count" (V.int t) (putF "factor" (V.int r) (putF "failures" (V.int f) (putF "n" (V.int n) (putF "depth" (V.int (min n (f + r) : Nat)) [])))))) = flds n f r t dd dl := by
  have e0 : putF "depth" (V.int (min n (f + r) : Nat)) [] = ([("depth", V.int (min n (f + r) : Nat))] : List (Str × V)) := rfl
  rw [e0]
  have e1 : putF "n" (V.int n) [("depth", V.int (min n (f + r) : Nat))] = ([("depth", V.int (min n (f + r) : Nat)), ("n", V.int n)] : List (Str × V)) := putF_new (show ∀ g ∈ (["depth"] : List Str), g ≠ "n" by decide +kernel)
  rw [e1]
  have e2 : putF "failures" (V.int f) [("depth", V.int (min n (f + r) : Nat)), ("n", V.int n)] = ([("depth", V.int (min n (f + r) : Nat)), ("n", V.int n), ("failures", V.int f)] : List (Str × V)) := putF_new (show ∀ g ∈ (["depth", "n"] : List Str), g ≠ "failures" by decide +kernel)
  rw [e2]
  have e3 : putF "factor" (V.int r) [("depth", V.int (min n (f + r) : Nat)), ("n", V.int n), ("failures", V.int f)] = ([("depth", V.int (min n (f + r) : Nat)), ("n", V.int n), ("failures", V.int f), ("factor", V.int r)] : List (Str × V)) := putF_new (show ∀ g ∈ (["depth", "n", "failures"] : List Str), g ≠ "factor" by decide +kernel)
  rw [e3]
  have e4 : putF "count" (V.int t) [("depth", V.int (min n (f + r) : Nat)), ("n", V.int n), ("failures", V.int f), ("factor", V.int r)] = ([("depth", V.int (min n (f + r) : Nat)), ("n", V.int n), ("failures", V.int f), ("factor", V.int r), ("count", V.int t)] : List (Str × V)) := putF_new (show ∀ g ∈ (["depth", "n", "failures", "factor"] : List Str), g ≠ "count" by decide +kernel)
  rw [e4]
  have e5 : putF "dead" (V.ref dd) [("depth", V.int (min n (f + r) : Nat)), ("n", V.int n), ("failures", V.int f), ("factor", V.int r), ("count", V.int t)] = ([("depth", V.int (min n (f + r) : Nat)), ("n", V.int n), ("failures", V.int f), ("factor", V.int r), ("count", V.int t), ("dead", V.ref dd)] : List (Str × V)) := putF_new (show ∀ g ∈ (["depth", "n", "failures", "factor", "count"] : List Str), g ≠ "dead" by decide +kernel)
  rw [e5]
  have e6 : putF "done" (V.ref dl) [("depth", V.int (min n (f + r) : Nat)), ("n", V.int n), ("failures", V.int f), ("factor", V.int r), ("count", V.int t), ("dead", V.ref dd)] = ([("depth", V.int (min n (f + r) : Nat)), ("n", V.int n), ("failures", V.int f), ("factor", V.int r), ("count", V.int t), ("dead", V.ref dd), ("done", V.ref dl)] : List (Str × V)) := putF_new (show ∀ g ∈ (["depth", "n", "failures", "factor", "count", "dead"] : List Str), g ≠ "done" by decide +kernel)
  rw [e6]
  rfl
end
/-! ### the dict of the dead -/
def dk (g : List Int) : List (Key × V) := g.map fun s => ((Sum.inl s : Key), V.bl true)
theorem dk_len (g : List Int) : (dk g).length = g.length := List.length_map ..
theorem dk_val (s : Int) : ∀ g : List Int, valV (dk g) (Sum.inl s) = if s ∈ g then some (.bl true) else none
  | [] => by simp [dk, valV_nil]
  | x :: g => by
    have ih := dk_val s g
    by_cases e : x = s
    · subst e
      have h : valV (dk (x :: g)) (Sum.inl x) = some (.bl true) := valV_pos (p := ((Sum.inl x : Key), V.bl true)) rfl
      rw [h, if_pos (List.mem_cons_self ..)]
    · have h : valV (dk (x :: g)) (Sum.inl s) = valV (dk g) (Sum.inl s) := valV_neg (p := ((Sum.inl x : Key), V.bl true)) (by intro z; exact e (Sum.inl.inj z))
      rw [h, ih]
      have e2 : ¬ s = x := fun z => e z.symm
      simp [e2]
theorem dk_some (s : Int) (g : List Int) : (valV (dk g) (Sum.inl s)).isSome = decide (s ∈ g) := by
  rw [dk_val]
  by_cases h : s ∈ g
  · simp [h]
  · simp [h]
theorem dk_put {s : Int} {g : List Int} (h : s ∉ g) : putK (dk g) (Sum.inl s) (.bl true) = dk (g ++ [s]) := by
  rw [putK_new _ (by rw [dk_val, if_neg h])]
  unfold dk
  rw [List.map_append]; rfl
def rmv (g : List Int) (s : Int) : List Int := g.filter fun x => !decide (x = s)
theorem dk_drop (s : Int) : ∀ g : List Int, dropK (dk g) (Sum.inl s) = dk (rmv g s)
  | [] => rfl
  | x :: g => by
    have ih := dk_drop s g
    by_cases e : x = s
    · subst e
      have h : dropK (dk (x :: g)) (Sum.inl x) = dropK (dk g) (Sum.inl x) := dropK_pos (p := ((Sum.inl x : Key), V.bl true)) rfl
      rw [h, ih]
      unfold rmv
      rw [List.filter_cons, if_neg (by simp)]
    · have h : dropK (dk (x :: g)) (Sum.inl s) = ((Sum.inl x : Key), V.bl true) :: dropK (dk g) (Sum.inl s) := dropK_neg (p := ((Sum.inl x : Key), V.bl true)) (by intro z; exact e (Sum.inl.inj z))
      rw [h, ih]
      unfold rmv
      rw [List.filter_cons, if_pos (by simp [e])]; rfl
/-- a cluster of n servers, f failures, factor r, t shards: g are dead, dn the changes -/
def Clu (K : PySem.W.Frag) (H : Hp) (k : CA) (n f r t : Nat) (g : List Int) (dn : List (Int × Int)) : Prop :=
  ∃ (dx : Addr) (ts : List Addr), H k.c = some (.ins (Cc K) dx (flds n f r t k.dd k.dl)) ∧ H k.dd = some (.dK (dk g)) ∧ H k.dl = some (.lst (ts.map V.ref)) ∧ PT H ts (dn.map fun x => [x.1, x.2])
structure GG (n f : Nat) (g : List Int) : Prop where
  nd : g.Nodup
  sub : ∀ x ∈ g, 0 ≤ x ∧ x < (n : Int)
  le : g.length ≤ f
theorem Clu.same {K : PySem.W.Frag} {H H' : Hp} {k : CA} {n f r t : Nat} {g : List Int} {dn : List (Int × Int)} (c : Clu K H k n f r t g dn) (e : Same H H') : Clu K H' k n f r t g dn := by
  obtain ⟨dx, ts, h1, h2, h3, h4⟩ := c
  exact ⟨dx, ts, e _ _ h1, e _ _ h2, e _ _ h3, h4.up fun b xs h => e b _ h⟩
/-- another object's change leaves it -/
theorem Clu.kp {K : PySem.W.Frag} {H H' : Hp} {k : CA} {n f r t : Nat} {g : List Int} {dn : List (Int × Int)} {S : List Addr} (c : Clu K H k n f r t g dn) (e : Kp S H H') (h1 : k.c ∉ S) (h2 : k.dd ∉ S) (h3 : k.dl ∉ S) (h4 : ∀ b ∈ S, ∀ xs, H b ≠ some (.tup xs)) : Clu K H' k n f r t g dn := by
  obtain ⟨dx, ts, q1, q2, q3, q4⟩ := c
  exact ⟨dx, ts, e _ _ h1 q1, e _ _ h2 q2, e _ _ h3 q3, q4.up fun b xs h => e b _ (fun z => h4 b z xs h) h⟩
/-! ### the methods that only look -/
abbrev sp_is_integer_cluster (K : PySem.W.Frag) : Sp := sp3 fun x y z H Q => ∃ i lo hi : Int, x = .int i ∧ y = .int lo ∧ z = .int hi ∧ lo ≤ i ∧ i ≤ hi ∧ Q (.bl true) H
abbrev N_is_integer_cluster : List Str := ["thing", "low", "high"]
theorem sc_is_integer_cluster : FnScope N_is_integer_cluster ["thing", "low", "high"] (defScope s_is_integer_cluster) := ⟨rfl, rfl, rfl, by decide +kernel, rfl, by decide +kernel, by decide +kernel⟩
theorem ok_is_integer_cluster (T : Tx K mg) : C8.Cal P w K mg base 1 "is_integer_cluster" (sp_is_integer_cluster K) [] := by
  refine calD (k := 0) (N := N_is_integer_cluster) (ps := ["thing", "low", "high"]) T.g_is_integer_cluster T.f_is_integer_cluster (fun _ _ _ _ _ _ us hl => match us, hl with | [_, _, _], _ => rfl) sc_is_integer_cluster len3 (fun cdv A outer s H vs Q E hr h => ?_)
  obtain ⟨x1, x2, x3, rfl, h⟩ := h
  refine ⟨_, (pss_one (ps_ret (pe_and (pe_callB call_isI (by rfl) T.n_isinstance (by decide +kernel) (pa_cons (pv 0) (pa_cons (pe_bltn (v := .ty "int") (by rfl) T.n_int (by decide +kernel) rfl) pa_nil))) (pe_and (pe_not (pe_callB call_isB (by rfl) T.n_isinstance (by decide +kernel) (pa_cons (pv 0) (pa_cons (pe_bltn (v := .ty "bool") (by rfl) T.n_bool (by decide +kernel) rfl) pa_nil)))) (pe_one (pe_chain op_le op_le (pv 1) (pv 0) (pv 2))))))), ?_⟩
  obtain ⟨i, lo, hi, rfl, rfl, rfl, h1, h2, q⟩ := h
  walk_at "rd"
  refine ifT (decide_eq_true h1) ?_
  walk_at "rd"
  show Q (V.bl (decide (i ≤ hi))) H
  rw [decide_eq_true h2]
  exact q
abbrev sp_C_live (K : PySem.W.Frag) : Sp := sp1 fun x H Q => ∃ (k : CA) (n f r t : Nat) (g : List Int) (dn : List (Int × Int)), x = .ref k.c ∧ Clu K H k n f r t g dn ∧ n ≤ 6 ∧ ∀ q H', Same H H' → H q = none → TI H' q (oth n g) → Q (.ref q) H'
abbrev N_C_live : List Str := ["self", "server"]
theorem sc_C_live : FnScope N_C_live ["self"] (defScope s_C_live) := ⟨rfl, rfl, rfl, by decide +kernel, rfl, by decide +kernel, by decide +kernel⟩
theorem ok_C_live (T : Tx K mg) : C8.Met P w K mg base 1 (Cc K) "live" (sp_C_live K) [] := by
  refine metD (k := 0) (N := N_C_live) (ps := ["self"]) T.cl T.m_live T.f_C_live (fun _ _ _ _ _ _ us hl => match us, hl with | [_], _ => rfl) sc_C_live len1 (fun cdv A outer s H vs Q E hr h => ?_)
  obtain ⟨x1, rfl, h⟩ := h
  refine ⟨_, (pss_one (ps_ret (pe_callTy call_tuple_of (by rfl) T.n_tuple (by decide +kernel) (pa_cons (pe_lc (own := [("server", 1)]) (g := gName 1) rfl sc_C_live.nd (pi_range1 (by rfl) T.n_range (pa_cons (pe_fldK (K := K) rfl (pv 0) rfl) pa_nil)) (blkOk_by (own := [("server", 1)]) (N := N_C_live) (sc := defScope s_C_live) (by decide +kernel)) (fun _ _ _ _ _ => pg_name (i := 1) sc_C_live.nd rfl (Or.inl rfl)) (fun _ _ _ _ _ => pts_one (pt_cmp (pc_dnotin (hu_of hr) (pv 1) (pe_fldK (K := K) rfl (pv 0) rfl)) rfl)) (fun _ _ _ _ _ => (pv 1))) pa_nil)))), ?_⟩
  obtain ⟨k, n, f, r, t, g, dn, rfl, hC, hn, q⟩ := h
  obtain ⟨dx, ts, h1, h2, h3, h4⟩ := id hC
  walk_at "rd"
  refine ⟨_, _, _, _, _, rfl, h1, T.cl, T.a_n, fl_n, ?_⟩
  walk_at "rd"
  refine ⟨by omega, by omega, fun D nD => lc_range (lo := 0) (n := ((n : Int)).toNat) (fun i H' => Same H H' ∧ LI H' D (((rng n).take i).filter fun s => !decide (s ∈ g))) ⟨sNew nD, upd_same⟩ ?_ ?_⟩
  · rintro i H' hi ⟨sm, hD⟩
    have hi2 : i < n := by omega
    refine ⟨rfl, ?_⟩
    rw [Int.zero_add]
    have ef := filt_snoc (p := fun s => !decide (s ∈ g)) (rng_at hi2)
    walk_at "rd"
    refine ⟨_, _, _, _, _, rfl, sm _ _ h1, T.cl, T.a_dead, fl_dead, ?_⟩
    refine ⟨_, _, rfl, DGet.k (k := Sum.inl (i : Int)) (sm _ _ h2), ?_⟩
    walk_at "rd"
    rw [dk_some]
    refine ite2 (fun c => ?_) (fun c => ?_)
    · rw [if_pos c] at ef
      refine ⟨_, rfl, _, hD, filt_len _ (by omega), sPut sm nD, ?_⟩
      show upd H' D _ D = _
      rw [upd_same, ef, List.map_append]
      rfl
    · rw [if_neg c, List.append_nil] at ef
      refine ⟨sm, ?_⟩
      show H' D = _
      rw [ef]
      exact hD
  · rintro H' ⟨sm, hD⟩
    have e : (rng n).take ((n : Int)).toNat = rng n := List.take_of_length_le (by rw [rng_len]; omega)
    rw [e] at hD
    refine ⟨D, _, rfl, .inl ⟨SqL.of hD, fun l nl => ?_⟩⟩
    exact q l _ (fun b o e => sNew nl _ _ (sm _ _ e)) (sm.free nl) upd_same
abbrev sp_C_is_live (K : PySem.W.Frag) : Sp := sp2 fun x y H Q => ∃ (k : CA) (n f r t : Nat) (g : List Int) (dn : List (Int × Int)) (z : Int), x = .ref k.c ∧ y = .int z ∧ Clu K H k n f r t g dn ∧ z ∈ oth n g ∧ Q (.bl true) H
abbrev N_C_is_live : List Str := ["self", "server"]
theorem sc_C_is_live : FnScope N_C_is_live ["self", "server"] (defScope s_C_is_live) := ⟨rfl, rfl, rfl, by decide +kernel, rfl, by decide +kernel, by decide +kernel⟩
theorem ok_C_is_live (T : Tx K mg) : C8.Met P w K mg base 2 (Cc K) "is_live" (sp_C_is_live K) [] := by
  have c_is_integer_cluster := ok_is_integer_cluster (P := P) (w := w) (K := K) (mg := mg) (base := base) T
  refine metD (k := 1) (N := N_C_is_live) (ps := ["self", "server"]) T.cl T.m_is_live T.f_C_is_live (fun _ _ _ _ _ _ us hl => match us, hl with | [_, _], _ => rfl) sc_C_is_live len2 (fun cdv A outer s H vs Q E hr h => ?_)
  obtain ⟨x1, x2, rfl, h⟩ := h
  refine ⟨_, (pss_one (ps_ret (pe_and (C8.pe_c c_is_integer_cluster hr (by decide) (by rfl) (pa_cons (pv 1) (pa_cons pe_int (pa_cons (pe_op op_sub (pe_fldK (K := K) rfl (pv 0) rfl) pe_int) pa_nil)))) (pe_one (pe_cmp (pc_dnotin (hu_of hr) (pv 1) (pe_fldK (K := K) rfl (pv 0) rfl)) rfl))))), ?_⟩
  obtain ⟨k, n, f, r, t, g, dn, z, rfl, rfl, hC, hz, q⟩ := h
  obtain ⟨dx, ts, h1, h2, h3, h4⟩ := id hC
  obtain ⟨m1, m2⟩ := mem_oth.mp hz
  walk_at "rd"
  refine ⟨_, _, _, _, _, rfl, h1, T.cl, T.a_n, fl_n, ?_⟩
  walk_at "rd"
  refine ⟨m1.1, by omega, ?_⟩
  walk_at "rd"
  refine ⟨_, _, _, _, _, rfl, h1, T.cl, T.a_dead, fl_dead, ?_⟩
  refine ⟨_, _, rfl, DGet.k (k := Sum.inl z) h2, ?_⟩
  rw [dk_some, decide_eq_false m2]
  exact q
end
end EF
namespace EF
open PySem PySem.Spec PyProof.Rows L2
local macro_rules | `(tactic| walk_at "rd") => `(tactic| repeat (first
  | refine ⟨_, rfl, ?_⟩ | refine ⟨rfl, ?_⟩ | refine ⟨_, _, rfl, ?_⟩ | refine ⟨_, _, rfl, rfl, ?_⟩ | refine ⟨_, _, _, rfl, ?_⟩ | refine ⟨_, _, _, rfl, rfl, rfl, ?_⟩ | refine ⟨_, _, _, _, rfl, ?_⟩ | refine ⟨_, _, _, _, rfl, rfl, rfl, rfl, ?_⟩ | refine ⟨_, _, _, _, _, rfl, ?_⟩))
section
variable {P : Program} {w : World} {K : PySem.W.Frag} {mg : Str → Option Value} {base : Heap}
/-! ### data -/
def Shp (k : Nat) (d : PyData) : Prop := d.canLay0 = true ∧ d.depth ≤ k
theorem shp_int (k : Nat) (i : Int) : Shp k (.int i) := ⟨rfl, Nat.zero_le _⟩
theorem shp_none (k : Nat) : Shp k .none := ⟨rfl, Nat.zero_le _⟩
theorem shp_all {k : Nat} : ∀ {ds : List PyData}, (∀ d ∈ ds, Shp k d) → PyData.canLayAll0 ds = true ∧ PyData.depthAll ds ≤ k
  | [], _ => ⟨rfl, Nat.zero_le _⟩
  | d :: ds, h => by
    obtain ⟨h1, h2⟩ := h d (List.mem_cons_self ..)
    obtain ⟨h3, h4⟩ := shp_all fun x hx => h x (List.mem_cons_of_mem d hx)
    refine ⟨?_, ?_⟩
    · show (d.canLay0 && PyData.canLayAll0 ds) = true
      rw [h1, h3]; rfl
    · show max d.depth (PyData.depthAll ds) ≤ k
      omega
theorem shp_list {k : Nat} {ds : List PyData} (h : ∀ d ∈ ds, Shp k d) : Shp (k + 1) (.list ds) := ⟨(shp_all h).1, Nat.succ_le_succ (shp_all h).2⟩
theorem shp_tup {k : Nat} {ds : List PyData} (h : ∀ d ∈ ds, Shp k d) : Shp (k + 1) (.tuple ds) := ⟨(shp_all h).1, Nat.succ_le_succ (shp_all h).2⟩
theorem Shp.ok {k : Nat} {d : PyData} (h : Shp k d) (hk : k ≤ 64) : SeqAt.shaped d = true := by
  unfold SeqAt.shaped
  rw [h.1, decide_eq_true (Nat.le_trans h.2 hk)]; rfl
theorem dp_ints {K : PySem.W.Frag} {H : Hp} : ∀ ns : List Int, DpAll K H (ns.map V.int) (ns.map PyData.int)
  | [] => .nil
  | n :: ns => .cons (.int n) (dp_ints ns)
def tupD (ns : List Int) : PyData := .tuple (ns.map PyData.int)
theorem shp_tupD (ns : List Int) : Shp 1 (tupD ns) := shp_tup fun d hd => by
  obtain ⟨i, _, rfl⟩ := List.mem_map.mp hd
  exact shp_int 0 i
theorem dp_tup {K : PySem.W.Frag} {H : Hp} {a : Addr} {ns : List Int} (h : TI H a ns) : Dp K H (.ref a) (tupD ns) := .tup (SqT.of h) (dp_ints ns)
def ldN (t r a : Nat) : Nat := t * min r a / a
def flN (t r a : Nat) : Nat := if r < a then ldN t r a else 0
def sucC (n f r t : Nat) (g : List Int) (i : Nat) (z : Int) : V := if r < (oth n g).length then sucV (ordL n (min n (f + r)) t i) (oth n g) r z else .non
abbrev sp_C_init (K : PySem.W.Frag) : Sp := sp5 fun x y z u v H Q => ∃ (p : Addr) (n f r t : Nat), x = .ref p ∧ y = .int n ∧ z = .int f ∧ u = .int r ∧ v = .int t ∧ ∃ dx : Addr, H p = some (.ins (Cc K) dx []) ∧ Good n f r t ∧
  ∀ dd dl H', Kp [p] H H' → H dd = none → H dl = none → dd ≠ dl → Clu K H' ⟨p, dd, dl⟩ n f r t [] [] → Q .non H'
theorem putlt {f : Str} {v : V} {l : List (Str × V)} {k : Nat} (h : l.length ≤ k) : (putF f v l).length ≤ k + 1 := Nat.le_trans (length_putF f v l) (Nat.succ_le_succ h)
abbrev N_C_init : List Str := ["self", "n", "failures", "factor", "count"]
theorem sc_C_init : FnScope N_C_init ["self", "n", "failures", "factor", "count"] (defScope s_C_init) := ⟨rfl, rfl, rfl, by decide +kernel, rfl, by decide +kernel, by decide +kernel⟩
theorem ok_C_init (T : Tx K mg) : C8.Mak P w K mg base 5 "Cluster" (Cc K) (sp_C_init K) [] := by
  have c_is_possible := ok_is_possible (P := P) (w := w) (K := K) (mg := mg) (base := base) T
  have c_is_integer_cluster := ok_is_integer_cluster (P := P) (w := w) (K := K) (mg := mg) (base := base) T
  refine makD (k := 4) (N := N_C_init) (ps := ["self", "n", "failures", "factor", "count"]) T.mkC T.g_Cluster T.f_C_init (fun _ _ _ _ _ _ us hl => match us, hl with | [_, _, _, _, _], _ => rfl) sc_C_init len5 (fun cdv A outer s H vs Q E hr h => ?_)
  obtain ⟨x1, x2, x3, x4, x5, rfl, h⟩ := h
  refine ⟨_, (pss_cons (ps_if (pt_not (pt_val (C8.pe_c c_is_integer_cluster hr (by decide) (by rfl) (pa_cons (pv 1) (pa_cons (C8.pe_gc (by rfl) T.k_LEAST_SERVERS) (pa_cons (C8.pe_gc (by rfl) T.k_MOST_SERVERS) pa_nil))))))
    (pss_one ps_never)
    pss_nil)
    (pss_cons (ps_if (pt_not (pt_val (C8.pe_c c_is_integer_cluster hr (by decide) (by rfl) (pa_cons (pv 2) (pa_cons pe_int (pa_cons (pe_op op_sub (pv 1) pe_int) pa_nil))))))
    (pss_one ps_never)
    pss_nil)
    (pss_cons (ps_if (pt_not (pt_val (C8.pe_c c_is_integer_cluster hr (by decide) (by rfl) (pa_cons (pv 3) (pa_cons pe_int (pa_cons (pv 1) pa_nil))))))
    (pss_one ps_never)
    pss_nil)
    (pss_cons (ps_fld (pv 0) (pe_callB (call_min2 rfl) (by rfl) T.n_min (by decide +kernel) (pa_cons (pv 1) (pa_cons (pe_op op_add (pv 2) (pv 3)) pa_nil))) rfl)
    (pss_cons (ps_if (pt_not (pt_val (C8.pe_c c_is_possible hr (by decide) (by rfl) (pa_cons (pv 1) (pa_cons (pe_fldK (K := K) rfl (pv 0) rfl) (pa_cons (pv 4) pa_nil))))))
    (pss_one ps_never)
    pss_nil)
    (pss_cons (ps_fld (pv 0) (pv 1) rfl)
    (pss_cons (ps_fld (pv 0) (pv 2) rfl)
    (pss_cons (ps_fld (pv 0) (pv 3) rfl)
    (pss_cons (ps_fld (pv 0) (pv 4) rfl)
    (pss_cons (ps_fld (pv 0) pe_dnewK rfl)
    (pss_one (ps_fld (pv 0) (pe_lst pa_nil) rfl)))))))))))), ?_⟩
  obtain ⟨p, n, f, r, t, rfl, rfl, rfl, rfl, rfl, dx, hp, g, q⟩ := h
  have g2 := g.gt.n2
  have g6 := g.gt.n6
  have gd := g.gt.d1
  have gn := g.gt.dn
  have ht := g.gt.all.2.2.2
  have f1 := g.f1
  have fn := g.fn
  have r1 := g.r1
  have rn := g.rn
  walk_at "rd"
  refine ⟨by omega, by omega, ?_⟩
  walk_at "rd"
  refine ⟨by omega, by omega, ?_⟩
  walk_at "rd"
  refine ⟨by omega, by omega, ?_⟩
  walk_at "rd"
  have em : (if (f : Int) + (r : Int) < (n : Int) then (f : Int) + (r : Int) else (n : Int)) = ((min n (f + r) : Nat) : Int) := by split <;> omega
  dsimp only
  rw [em]
  have l0 : ([] : List (Str × V)).length ≤ 0 := Nat.le_refl _
  have lt : ∀ {l : List (Str × V)} {k : Nat}, l.length ≤ k → k ≤ 7 → l.length < 1000 := fun h h2 => by omega
  refine ⟨_, _, _, _, rfl, hp, T.cl, T.a_depth, lt l0 (by decide), ?_⟩
  walk_at "rd"
  refine ⟨_, _, _, _, _, rfl, upd_same, T.cl, T.a_depth, (by rw [lookup_putF, if_pos rfl]), ?_⟩
  walk_at "rd"
  refine ⟨g2, g6, gn, ht.1, g.gt.dvd, fun H1 sm1 => ?_⟩
  have h1 := sm1 p _ upd_same
  walk_at "rd"
  refine ⟨_, _, _, _, rfl, h1, T.cl, T.a_n, lt (putlt l0) (by decide), ?_⟩
  walk_at "rd"
  refine ⟨_, _, _, _, rfl, upd_same, T.cl, T.a_failures, lt (putlt (putlt l0)) (by decide), ?_⟩
  walk_at "rd"
  refine ⟨_, _, _, _, rfl, upd_same, T.cl, T.a_factor, lt (putlt (putlt (putlt l0))) (by decide), ?_⟩
  walk_at "rd"
  refine ⟨_, _, _, _, rfl, upd_same, T.cl, T.a_count, lt (putlt (putlt (putlt (putlt l0)))) (by decide), ?_⟩
  rw [upd_upd, upd_upd, upd_upd]
  intro dd ndd
  have n1 : p ≠ dd := ne_of_none upd_same ndd
  walk_at "rd"
  refine ⟨_, _, _, _, rfl, by rw [upd_ne n1, upd_same], T.cl, T.a_dead, lt (putlt (putlt (putlt (putlt (putlt l0))))) (by decide), ?_⟩
  walk_at "rd"
  refine ⟨Nat.zero_le _, fun dl ndl => ?_⟩
  have n2 : p ≠ dl := ne_of_none upd_same ndl
  have n3 : dd ≠ dl := ne_of_none (by rw [upd_ne n1.symm, upd_same]) ndl
  walk_at "rd"
  refine ⟨_, _, _, _, rfl, by rw [upd_ne n2, upd_same], T.cl, T.a_done, lt (putlt (putlt (putlt (putlt (putlt (putlt l0)))))) (by decide), ?_⟩
  rw [fl_made]
  have f1 : H1 dd = none := by rw [upd_ne n1.symm] at ndd; exact ndd
  have f2 : H1 dl = none := by rw [upd_ne n2.symm, upd_ne n3.symm, upd_ne n2.symm] at ndl; exact ndl
  have back : ∀ b : Addr, b ≠ p → H1 b = none → H b = none := fun b hb hn => by
    cases e : H b with
    | none => rfl
    | some o =>
      have := sm1 b o (by rw [upd_ne hb]; exact e)
      rw [hn] at this; cases this
  refine q dd dl _ (fun b o nb e => ?_) (back dd n1.symm f1) (back dl n2.symm f2) n3 ⟨dx, [], upd_same, ?_, ?_, trivial⟩
  · have hb : b ≠ p := fun z => nb (by rw [z]; exact List.mem_cons_self ..)
    have e1 := sm1 b o (by rw [upd_ne hb]; exact e)
    rw [upd_ne hb, upd_ne (ne_of_none e1 f2), upd_ne hb, upd_ne (ne_of_none e1 f1), upd_ne hb]
    exact e1
  · show upd _ p _ dd = _
    rw [upd_ne n1.symm, upd_ne n3, upd_ne n1.symm, upd_same]
    rfl
  · show upd _ p _ dl = _
    rw [upd_ne n2.symm, upd_same]
    rfl
end
end EF
namespace EF
open PySem PySem.Spec PyProof.Rows L2
local macro_rules | `(tactic| walk_at "rd") => `(tactic| repeat (first
  | refine ⟨_, rfl, ?_⟩ | refine ⟨rfl, ?_⟩ | refine ⟨_, _, rfl, ?_⟩ | refine ⟨_, _, rfl, rfl, ?_⟩ | refine ⟨_, _, _, rfl, ?_⟩ | refine ⟨_, _, _, rfl, rfl, rfl, ?_⟩ | refine ⟨_, _, _, _, rfl, ?_⟩ | refine ⟨_, _, _, _, rfl, rfl, rfl, rfl, ?_⟩ | refine ⟨_, _, _, _, _, rfl, ?_⟩))
section
variable {P : Program} {w : World} {K : PySem.W.Frag} {mg : Str → Option Value} {base : Heap}
abbrev sp_C_order_of (K : PySem.W.Frag) : Sp := sp2 fun x y H Q => ∃ (k : CA) (n f r t : Nat) (g : List Int) (dn : List (Int × Int)) (i : Nat), x = .ref k.c ∧ y = .int i ∧ Clu K H k n f r t g dn ∧ Good n f r t ∧ i < t ∧
  ∀ q H', Same H H' → H q = none → TI H' q (ordL n (min n (f + r)) t i) → Q (.ref q) H'
abbrev N_C_order_of : List Str := ["self", "shard"]
theorem sc_C_order_of : FnScope N_C_order_of ["self", "shard"] (defScope s_C_order_of) := ⟨rfl, rfl, rfl, by decide +kernel, rfl, by decide +kernel, by decide +kernel⟩
theorem ok_C_order_of (T : Tx K mg) : C8.Met P w K mg base 8 (Cc K) "order_of" (sp_C_order_of K) [] := by
  have c_list_at := ok_list_at (P := P) (w := w) (K := K) (mg := mg) (base := base) T
  have c_is_integer_cluster := ok_is_integer_cluster (P := P) (w := w) (K := K) (mg := mg) (base := base) T
  refine metD (k := 7) (N := N_C_order_of) (ps := ["self", "shard"]) T.cl T.m_order_of T.f_C_order_of (fun _ _ _ _ _ _ us hl => match us, hl with | [_, _], _ => rfl) sc_C_order_of len2 (fun cdv A outer s H vs Q E hr h => ?_)
  obtain ⟨x1, x2, rfl, h⟩ := h
  refine ⟨_, (pss_cons (ps_if (pt_not (pt_val (C8.pe_c c_is_integer_cluster hr (by decide) (by rfl) (pa_cons (pv 1) (pa_cons pe_int (pa_cons (pe_op op_sub (pe_fldK (K := K) rfl (pv 0) rfl) pe_int) pa_nil))))))
    (pss_one ps_never)
    pss_nil)
    (pss_one (ps_ret (C8.pe_c c_list_at hr (by decide) (by rfl) (pa_cons (pe_fldK (K := K) rfl (pv 0) rfl) (pa_cons (pe_fldK (K := K) rfl (pv 0) rfl) (pa_cons (pe_fldK (K := K) rfl (pv 0) rfl) (pa_cons (pv 1) pa_nil)))))))), ?_⟩
  obtain ⟨k, n, f, r, t, g, dn, i, rfl, rfl, hC, hG, hi, q⟩ := h
  obtain ⟨dx, ts, h1, h2, h3, h4⟩ := id hC
  walk_at "rd"
  refine ⟨_, _, _, _, _, rfl, h1, T.cl, T.a_count, fl_count, ?_⟩
  walk_at "rd"
  refine ⟨by omega, by omega, ?_⟩
  walk_at "rd"
  refine ⟨_, _, _, _, _, rfl, h1, T.cl, T.a_n, fl_n, ?_⟩
  walk_at "rd"
  refine ⟨_, _, _, _, _, rfl, h1, T.cl, T.a_depth, fl_depth, ?_⟩
  walk_at "rd"
  refine ⟨_, _, _, _, _, rfl, h1, T.cl, T.a_count, fl_count, ?_⟩
  walk_at "rd"
  exact ⟨hG.gt, hi, q⟩
abbrev sp_C_owners (K : PySem.W.Frag) : Sp := sp2 fun x y H Q => ∃ (k : CA) (n f r t : Nat) (g : List Int) (dn : List (Int × Int)) (i : Nat), x = .ref k.c ∧ y = .int i ∧ Clu K H k n f r t g dn ∧ Good n f r t ∧ GG n f g ∧ i < t ∧
  ∀ q H', Same H H' → H q = none → TI H' q (own (ordL n (min n (f + r)) t i) (oth n g) r) → Q (.ref q) H'
theorem oth_small {n : Nat} {g : List Int} (h : n ≤ 6) : (oth n g).length ≤ 6 := by
  have h2 : (oth n g).length ≤ (rng n).length := List.length_filter_le _ _
  rw [rng_len] at h2
  omega
abbrev N_C_owners : List Str := ["self", "shard"]
theorem sc_C_owners : FnScope N_C_owners ["self", "shard"] (defScope s_C_owners) := ⟨rfl, rfl, rfl, by decide +kernel, rfl, by decide +kernel, by decide +kernel⟩
theorem ok_C_owners (T : Tx K mg) : C8.Met P w K mg base 9 (Cc K) "owners" (sp_C_owners K) [] := by
  have c_holders := ok_holders (P := P) (w := w) (K := K) (mg := mg) (base := base) T
  have m_live := ok_C_live (P := P) (w := w) (K := K) (mg := mg) (base := base) T
  have m_order_of := ok_C_order_of (P := P) (w := w) (K := K) (mg := mg) (base := base) T
  refine metD (k := 8) (N := N_C_owners) (ps := ["self", "shard"]) T.cl T.m_owners T.f_C_owners (fun _ _ _ _ _ _ us hl => match us, hl with | [_, _], _ => rfl) sc_C_owners len2 (fun cdv A outer s H vs Q E hr h => ?_)
  obtain ⟨x1, x2, rfl, h⟩ := h
  refine ⟨_, (pss_one (ps_ret (C8.pe_c c_holders hr (by decide) (by rfl) (pa_cons (C8.pe_mt m_order_of hr (by decide) (pv 0) (pa_cons (pv 1) pa_nil)) (pa_cons (C8.pe_mt0 m_live hr (by decide) (pv 0)) (pa_cons (pe_fldK (K := K) rfl (pv 0) rfl) pa_nil)))))), ?_⟩
  obtain ⟨k, n, f, r, t, g, dn, i, rfl, rfl, hC, hG, hgg, hi, q⟩ := h
  obtain ⟨dx, ts, h1, h2, h3, h4⟩ := id hC
  have g6 := hG.gt.n6
  have gn := hG.gt.dn
  have hol := ord_len hG.gt hi
  walk_at "rd"
  refine ⟨_, _, _, rfl, h1, fl_no (by decide +kernel), ?_⟩
  walk_at "rd"
  refine ⟨k, n, f, r, t, g, dn, i, rfl, rfl, hC, hG, hi, fun a H1 sm1 na ha => ?_⟩
  have hC1 := hC.same sm1
  obtain ⟨_, _, k1, _, _, _⟩ := id hC1
  walk_at "rd"
  refine ⟨_, _, _, rfl, k1, fl_no (by decide +kernel), ?_⟩
  walk_at "rd"
  refine ⟨k, n, f, r, t, g, dn, rfl, hC1, g6, fun b H2 sm2 nb hb => ?_⟩
  have hC2 := hC1.same sm2
  obtain ⟨_, _, k2, _, _, _⟩ := id hC2
  walk_at "rd"
  refine ⟨_, _, _, _, _, rfl, k2, T.cl, T.a_factor, fl_factor, ?_⟩
  walk_at "rd"
  have ho := oth_small (g := g) g6
  refine ⟨_, _, SqT.of (sm2 _ _ ha), SqT.of hb, by omega, by omega, ord_nodup hG.gt hi, enough hG hi hgg.nd hgg.sub hgg.le, fun p H3 sm3 np hT => ?_⟩
  exact q p H3 (sm1.trans (sm2.trans sm3)) (sm1.free (sm2.free np)) hT
abbrev sp_C_load (K : PySem.W.Frag) : Sp := sp2 fun x y H Q => ∃ (k : CA) (n f r t : Nat) (g : List Int) (dn : List (Int × Int)) (z : Int), x = .ref k.c ∧ y = .int z ∧ Clu K H k n f r t g dn ∧ Good n f r t ∧ z ∈ oth n g ∧
  ∀ H', Same H H' → Q (.int (ldN t r (oth n g).length : Nat)) H'
theorem len_pos {z : Int} {l : List Int} (h : z ∈ l) : 0 < l.length := List.length_pos_of_mem h
abbrev N_C_load : List Str := ["self", "server", "alive"]
theorem sc_C_load : FnScope N_C_load ["self", "server"] (defScope s_C_load) := ⟨rfl, rfl, rfl, by decide +kernel, rfl, by decide +kernel, by decide +kernel⟩
theorem ok_C_load (T : Tx K mg) : C8.Met P w K mg base 3 (Cc K) "load" (sp_C_load K) [] := by
  have m_live := ok_C_live (P := P) (w := w) (K := K) (mg := mg) (base := base) T
  have m_is_live := ok_C_is_live (P := P) (w := w) (K := K) (mg := mg) (base := base) T
  refine metD (k := 2) (N := N_C_load) (ps := ["self", "server"]) T.cl T.m_load T.f_C_load (fun _ _ _ _ _ _ us hl => match us, hl with | [_, _], _ => rfl) sc_C_load len2 (fun cdv A outer s H vs Q E hr h => ?_)
  obtain ⟨x1, x2, rfl, h⟩ := h
  refine ⟨_, (pss_cons (ps_if (pt_not (pt_val (C8.pe_mt m_is_live hr (by decide) (pv 0) (pa_cons (pv 1) pa_nil))))
    (pss_one ps_never)
    pss_nil)
    (pss_cons (ps_set (i := 2) sc_C_load.nd rfl (Or.inl rfl) (pe_callB call_len_seq (by rfl) T.n_len PySem.boot_len (pa_cons (C8.pe_mt0 m_live hr (by decide) (pv 0)) pa_nil)))
    (pss_one (ps_ret (pe_op op_fdiv (pe_op op_mul (pe_fldK (K := K) rfl (pv 0) rfl) (pe_callB (call_min2 rfl) (by rfl) T.n_min (by decide +kernel) (pa_cons (pe_fldK (K := K) rfl (pv 0) rfl) (pa_cons (pv 2) pa_nil)))) (pv 2)))))), ?_⟩
  obtain ⟨k, n, f, r, t, g, dn, z, rfl, rfl, hC, hG, hz, q⟩ := h
  obtain ⟨dx, ts, h1, h2, h3, h4⟩ := id hC
  have g6 := hG.gt.n6
  have ht := hG.gt.all.2.2.2
  have hp := len_pos hz
  have ho := oth_small (g := g) g6
  walk_at "rd"
  refine ⟨_, _, _, rfl, h1, fl_no (by decide +kernel), ?_⟩
  walk_at "rd"
  refine ⟨k, n, f, r, t, g, dn, z, rfl, rfl, hC, hz, ?_⟩
  walk_at "rd"
  refine ⟨_, _, _, rfl, h1, fl_no (by decide +kernel), ?_⟩
  walk_at "rd"
  refine ⟨k, n, f, r, t, g, dn, rfl, hC, g6, fun b H1 sm1 nb hb => ?_⟩
  obtain ⟨_, _, k1, _, _, _⟩ := id (hC.same sm1)
  walk_at "rd"
  refine ⟨b, _, rfl, .inr (SqT.of hb), ?_⟩
  rw [List.length_map]
  walk_at "rd"
  refine ⟨_, _, _, _, _, rfl, k1, T.cl, T.a_count, fl_count, ?_⟩
  walk_at "rd"
  refine ⟨_, _, _, _, _, rfl, k1, T.cl, T.a_factor, fl_factor, ?_⟩
  walk_at "rd"
  refine ⟨.inl ⟨by omega, by omega⟩, ?_⟩
  walk_at "rd"
  refine ⟨⟨by omega, by omega⟩, ?_⟩
  generalize (oth n g).length = a at *
  have em : (if (a : Int) < (r : Int) then (a : Int) else (r : Int)) = ((min r a : Nat) : Int) := by split <;> omega
  have e2 : (t : Int) * (if (a : Int) < (r : Int) then (a : Int) else (r : Int)) / (a : Int) = ((ldN t r a : Nat) : Int) := by
    rw [em]
    unfold ldN
    rw [Int.natCast_ediv, Int.natCast_mul]
  show Q (.int ((t : Int) * (if (a : Int) < (r : Int) then (a : Int) else (r : Int)) / (a : Int))) H1
  rw [e2]
  exact q _ sm1
abbrev sp_C_check_failure (K : PySem.W.Frag) : Sp := sp2 fun x y H Q => ∃ (k : CA) (n f r t : Nat) (g : List Int) (dn : List (Int × Int)) (z : Int), x = .ref k.c ∧ y = .int z ∧ Clu K H k n f r t g dn ∧ z ∈ oth n g ∧ g.length < f ∧ Q .non H
abbrev N_C_check_failure : List Str := ["self", "server"]
theorem sc_C_check_failure : FnScope N_C_check_failure ["self", "server"] (defScope s_C_check_failure) := ⟨rfl, rfl, rfl, by decide +kernel, rfl, by decide +kernel, by decide +kernel⟩
theorem ok_C_check_failure (T : Tx K mg) : C8.Met P w K mg base 3 (Cc K) "check_failure" (sp_C_check_failure K) [] := by
  have m_is_live := ok_C_is_live (P := P) (w := w) (K := K) (mg := mg) (base := base) T
  refine metD (k := 2) (N := N_C_check_failure) (ps := ["self", "server"]) T.cl T.m_check_failure T.f_C_check_failure (fun _ _ _ _ _ _ us hl => match us, hl with | [_, _], _ => rfl) sc_C_check_failure len2 (fun cdv A outer s H vs Q E hr h => ?_)
  obtain ⟨x1, x2, rfl, h⟩ := h
  refine ⟨_, (pss_cons (ps_if (pt_not (pt_val (C8.pe_mt m_is_live hr (by decide) (pv 0) (pa_cons (pv 1) pa_nil))))
    (pss_one ps_never)
    pss_nil)
    (pss_one (ps_if (pt_cmpR op_eq (pe_callB call_lenD (by rfl) T.n_len PySem.boot_len (pa_cons (pe_fldK (K := K) rfl (pv 0) rfl) pa_nil)) (pe_fldK (K := K) rfl (pv 0) rfl) (nomark _))
    (pss_one ps_never)
    pss_nil))), ?_⟩
  obtain ⟨k, n, f, r, t, g, dn, z, rfl, rfl, hC, hz, hl, q⟩ := h
  obtain ⟨dx, ts, h1, h2, h3, h4⟩ := id hC
  walk_at "rd"
  refine ⟨_, _, _, rfl, h1, fl_no (by decide +kernel), ?_⟩
  walk_at "rd"
  refine ⟨k, n, f, r, t, g, dn, z, rfl, rfl, hC, hz, ?_⟩
  walk_at "rd"
  refine ⟨_, _, _, _, _, rfl, h1, T.cl, T.a_dead, fl_dead, ?_⟩
  walk_at "rd"
  refine ⟨_, _, rfl, h2, ?_⟩
  rw [dk_len]
  walk_at "rd"
  refine ⟨_, _, _, _, _, rfl, h1, T.cl, T.a_failures, fl_failures, ?_⟩
  walk_at "rd"
  refine ifF (decide_eq_false fun e => ?_) ?_
  · have := V.int.inj e
    omega
  · walk_at "rd"
    exact q
abbrev sp_C_successor (K : PySem.W.Frag) : Sp := sp3 fun x y z H Q => ∃ (k : CA) (n f r t : Nat) (g : List Int) (dn : List (Int × Int)) (i : Nat) (e : Int), x = .ref k.c ∧ y = .int i ∧ z = .int e ∧ Clu K H k n f r t g dn ∧ Good n f r t ∧ GG n f g ∧ i < t ∧ e ∈ oth n g ∧ g.length < f ∧
  ∀ H', Same H H' → Q (sucC n f r t g i e) H'
abbrev N_C_successor : List Str := ["self", "shard", "server", "order", "live"]
theorem sc_C_successor : FnScope N_C_successor ["self", "shard", "server"] (defScope s_C_successor) := ⟨rfl, rfl, rfl, by decide +kernel, rfl, by decide +kernel, by decide +kernel⟩
theorem ok_C_successor (T : Tx K mg) : C8.Met P w K mg base 9 (Cc K) "successor" (sp_C_successor K) [] := by
  have c_successor_failures := ok_successor_failures (P := P) (w := w) (K := K) (mg := mg) (base := base) T
  have m_live := ok_C_live (P := P) (w := w) (K := K) (mg := mg) (base := base) T
  have m_check_failure := ok_C_check_failure (P := P) (w := w) (K := K) (mg := mg) (base := base) T
  have m_order_of := ok_C_order_of (P := P) (w := w) (K := K) (mg := mg) (base := base) T
  refine metD (k := 8) (N := N_C_successor) (ps := ["self", "shard", "server"]) T.cl T.m_successor T.f_C_successor (fun _ _ _ _ _ _ us hl => match us, hl with | [_, _, _], _ => rfl) sc_C_successor len3 (fun cdv A outer s H vs Q E hr h => ?_)
  obtain ⟨x1, x2, x3, rfl, h⟩ := h
  refine ⟨_, (pss_cons (ps_set (i := 3) sc_C_successor.nd rfl (Or.inl rfl) (C8.pe_mt m_order_of hr (by decide) (pv 0) (pa_cons (pv 1) pa_nil)))
    (pss_cons (ps_expr (C8.pe_mt m_check_failure hr (by decide) (pv 0) (pa_cons (pv 2) pa_nil)))
    (pss_cons (ps_set (i := 4) sc_C_successor.nd rfl (Or.inl rfl) (C8.pe_mt0 m_live hr (by decide) (pv 0)))
    (pss_one (ps_ret (pe_ifExp (pt_cmpR op_gt (pe_callB call_len_seq (by rfl) T.n_len PySem.boot_len (pa_cons (pv 4) pa_nil)) (pe_fldK (K := K) rfl (pv 0) rfl) (nomark _)) (C8.pe_c c_successor_failures hr (by decide) (by rfl) (pa_cons (pv 3) (pa_cons (pv 4) (pa_cons (pe_fldK (K := K) rfl (pv 0) rfl) (pa_cons (pv 2) pa_nil))))) pe_non)))))), ?_⟩
  obtain ⟨k, n, f, r, t, g, dn, i, e, rfl, rfl, rfl, hC, hG, hgg, hi, he, hl, q⟩ := h
  obtain ⟨dx, ts, h1, h2, h3, h4⟩ := id hC
  have g6 := hG.gt.n6
  have gn := hG.gt.dn
  have hol := ord_len hG.gt hi
  have ho := oth_small (g := g) g6
  walk_at "rd"
  refine ⟨_, _, _, rfl, h1, fl_no (by decide +kernel), ?_⟩
  walk_at "rd"
  refine ⟨k, n, f, r, t, g, dn, i, rfl, rfl, hC, hG, hi, fun a H1 sm1 na ha => ?_⟩
  have hC1 := hC.same sm1
  obtain ⟨_, _, k1, _, _, _⟩ := id hC1
  walk_at "rd"
  refine ⟨_, _, _, rfl, k1, fl_no (by decide +kernel), ?_⟩
  walk_at "rd"
  refine ⟨k, n, f, r, t, g, dn, e, rfl, rfl, hC1, he, hl, ?_⟩
  walk_at "rd"
  refine ⟨_, _, _, rfl, k1, fl_no (by decide +kernel), ?_⟩
  walk_at "rd"
  refine ⟨k, n, f, r, t, g, dn, rfl, hC1, g6, fun b H2 sm2 nb hb => ?_⟩
  have hC2 := hC1.same sm2
  obtain ⟨_, _, k2, _, _, _⟩ := id hC2
  walk_at "rd"
  refine ⟨b, _, rfl, .inr (SqT.of hb), ?_⟩
  rw [List.length_map]
  walk_at "rd"
  refine ⟨_, _, _, _, _, rfl, k2, T.cl, T.a_factor, fl_factor, ?_⟩
  walk_at "rd"
  have q2 := fun H' sm => q H' (sm1.trans (sm2.trans sm))
  unfold sucC at q2
  refine ite2 (fun c => ?_) (fun c => ?_)
  · have c1 : r < (oth n g).length := by have := of_decide_eq_true c; omega
    walk_at "rd"
    refine ⟨_, _, _, _, _, rfl, k2, T.cl, T.a_factor, fl_factor, ?_⟩
    walk_at "rd"
    refine ⟨_, _, SqT.of (sm2 _ _ ha), SqT.of hb, by omega, enough2 hG hi hgg.nd hgg.sub hl c1, fun H3 sm3 => ?_⟩
    have := q2 H3 sm3
    rw [if_pos c1] at this
    exact this
  · have c1 : ¬ r < (oth n g).length := fun z => c (decide_eq_true (by omega))
    walk_at "rd"
    have := q2 H2 (Same.refl _)
    rw [if_neg c1] at this
    exact this
abbrev sp_C_len (K : PySem.W.Frag) : Sp := sp1 fun x H Q => ∃ (k : CA) (n f r t : Nat) (g : List Int) (dn : List (Int × Int)), x = .ref k.c ∧ Clu K H k n f r t g dn ∧ n ≤ 6 ∧ ∀ H', Same H H' → Q (.int ((oth n g).length : Nat)) H'
abbrev N_C_len : List Str := ["self"]
theorem sc_C_len : FnScope N_C_len ["self"] (defScope s_C_len) := ⟨rfl, rfl, rfl, by decide +kernel, rfl, by decide +kernel, by decide +kernel⟩
theorem ok_C_len (T : Tx K mg) : ∃ fd, FnOk P w K mg base C8.CX0 2 (He.ma K (Cc K) "__len__") fd ["self"] (sp_C_len K) ∧ Binds K fd ["self"] [] ∧ PySem.W.keepIn K (.ref (He.ma K (Cc K) "__len__")) = true := by
  have m_live := ok_C_live (P := P) (w := w) (K := K) (mg := mg) (base := base) T
  refine okD (k := 1) (N := N_C_len) (ps := ["self"]) T.f_C_len (fun _ _ _ _ _ _ us hl => match us, hl with | [_], _ => rfl) sc_C_len len1 (fun cdv A outer s H vs Q E hr h => ?_)
  obtain ⟨x1, rfl, h⟩ := h
  refine ⟨_, (pss_one (ps_ret (pe_callB call_len_seq (by rfl) T.n_len PySem.boot_len (pa_cons (C8.pe_mt0 m_live hr (by decide) (pv 0)) pa_nil)))), ?_⟩
  obtain ⟨k, n, f, r, t, g, dn, rfl, hC, g6, q⟩ := h
  obtain ⟨dx, ts, h1, h2, h3, h4⟩ := id hC
  walk_at "rd"
  refine ⟨_, _, _, rfl, h1, fl_no (by decide +kernel), ?_⟩
  walk_at "rd"
  refine ⟨k, n, f, r, t, g, dn, rfl, hC, g6, fun b H2 sm2 nb hb => ?_⟩
  walk_at "rd"
  refine ⟨b, _, rfl, .inr (SqT.of hb), ?_⟩
  rw [List.length_map]
  exact q _ sm2
abbrev sp_C_changes (K : PySem.W.Frag) : Sp := sp1 fun x H Q => ∃ (k : CA) (n f r t : Nat) (g : List Int) (dn : List (Int × Int)), x = .ref k.c ∧ Clu K H k n f r t g dn ∧ Q (.int (dn.length : Nat)) H
abbrev N_C_changes : List Str := ["self"]
theorem sc_C_changes : FnScope N_C_changes ["self"] (defScope s_C_changes) := ⟨rfl, rfl, rfl, by decide +kernel, rfl, by decide +kernel, by decide +kernel⟩
theorem ok_C_changes (T : Tx K mg) : C8.Met P w K mg base 1 (Cc K) "changes" (sp_C_changes K) [] := by
  refine metD (k := 0) (N := N_C_changes) (ps := ["self"]) T.cl T.m_changes T.f_C_changes (fun _ _ _ _ _ _ us hl => match us, hl with | [_], _ => rfl) sc_C_changes len1 (fun cdv A outer s H vs Q E hr h => ?_)
  obtain ⟨x1, rfl, h⟩ := h
  refine ⟨_, (pss_one (ps_ret (pe_callB call_len_seq (by rfl) T.n_len PySem.boot_len (pa_cons (pe_fldK (K := K) rfl (pv 0) rfl) pa_nil)))), ?_⟩
  obtain ⟨k, n, f, r, t, g, dn, rfl, hC, q⟩ := h
  obtain ⟨dx, ts, h1, h2, h3, h4⟩ := id hC
  walk_at "rd"
  refine ⟨_, _, _, _, _, rfl, h1, T.cl, T.a_done, fl_done, ?_⟩
  walk_at "rd"
  refine ⟨_, _, rfl, .inl (SqL.of h3), ?_⟩
  rw [List.length_map, h4.len, List.length_map]
  exact q
end
end EF
namespace EF
open PySem PySem.Spec PyProof.Rows L2
local macro_rules | `(tactic| walk_at "rd") => `(tactic| repeat (first
  | refine ⟨_, rfl, ?_⟩ | refine ⟨rfl, ?_⟩ | refine ⟨_, _, rfl, ?_⟩ | refine ⟨_, _, rfl, rfl, ?_⟩ | refine ⟨_, _, _, rfl, ?_⟩ | refine ⟨_, _, _, rfl, rfl, rfl, ?_⟩ | refine ⟨_, _, _, _, rfl, ?_⟩ | refine ⟨_, _, _, _, rfl, rfl, rfl, rfl, ?_⟩ | refine ⟨_, _, _, _, _, rfl, ?_⟩))
section
variable {P : Program} {w : World} {K : PySem.W.Frag} {mg : Str → Option Value} {base : Heap}
theorem lenEq {R : Addr → Addr → Hp → Prop} : ∀ vs H Q E, spEq R vs H Q E → vs.length = 2 := fun _ _ _ _ ⟨_, _, e, _⟩ => by rw [e]; rfl
def RR (K : PySem.W.Frag) : Addr → Addr → Hp → Prop := fun a b H => ∃ (k1 k2 : CA) (n f r t : Nat) (g1 g2 : List Int) (dn1 dn2 : List (Int × Int)), a = k1.c ∧ b = k2.c ∧ Clu K H k1 n f r t g1 dn1 ∧ Clu K H k2 n f r t g2 dn2 ∧ n ≤ 6 ∧ oth n g1 = oth n g2
abbrev sp_C_eq (K : PySem.W.Frag) : Sp := spEq (RR K)
def eqD (n f r t : Nat) (L : List Int) : PyData := .tuple [.int n, .int f, .int r, .int t, tupD L]
theorem shp_eqD (n f r t : Nat) (L : List Int) : SeqAt.shaped (eqD n f r t L) = true := by
  refine (shp_tup (k := 1) fun d hd => ?_).ok (by decide)
  simp only [List.mem_cons, List.not_mem_nil, or_false] at hd
  rcases hd with rfl | rfl | rfl | rfl | rfl
  · exact shp_int _ _
  · exact shp_int _ _
  · exact shp_int _ _
  · exact shp_int _ _
  · exact shp_tupD L
theorem dp_eqD {H : Hp} {p q : Addr} {n f r t : Nat} {L : List Int} (hp : H p = some (.tup [.int n, .int f, .int r, .int t, .ref q])) (hq : TI H q L) : Dp K H (.ref p) (eqD n f r t L) :=
  .tup (SqT.of hp) (.cons (.int _) (.cons (.int _) (.cons (.int _) (.cons (.int _) (.cons (dp_tup hq) .nil)))))
abbrev N_C_eq : List Str := ["self", "other", "mine"]
theorem sc_C_eq : FnScope N_C_eq ["self", "other"] (defScope s_C_eq) := ⟨rfl, rfl, rfl, by decide +kernel, rfl, by decide +kernel, by decide +kernel⟩
theorem ok_C_eq (T : Tx K mg) : ∃ fd, FnOk P w K mg base C8.CX0 2 (He.ma K (Cc K) "__eq__") fd ["self", "other"] (sp_C_eq K) ∧ Binds K fd ["self", "other"] [] ∧ PySem.W.keepIn K (.ref (He.ma K (Cc K) "__eq__")) = true := by
  have m_live := ok_C_live (P := P) (w := w) (K := K) (mg := mg) (base := base) T
  refine okD (k := 1) (N := N_C_eq) (ps := ["self", "other"]) T.f_C_eq (fun _ _ _ _ _ _ us hl => match us, hl with | [_, _], _ => rfl) sc_C_eq lenEq (fun cdv A outer s H vs Q E hr h => ?_)
  obtain ⟨x1, x2, rfl, h⟩ := h
  refine ⟨_, (pss_cons (ps_if (pt_not (pt_val (pe_callB (C8.call_isC T.ins) (by rfl) T.n_isinstance (by decide +kernel) (pa_cons (pv 1) (pa_cons (C8.pe_gc (v := .ref (Cc K)) (by rfl) ⟨_, T.g_Cluster, rfl⟩) pa_nil)))))
    (pss_one (ps_ret pe_bl))
    pss_nil)
    (pss_cons (ps_set (i := 2) sc_C_eq.nd rfl (Or.inl rfl) (pe_tup (pa_cons (pe_fldK (K := K) rfl (pv 0) rfl) (pa_cons (pe_fldK (K := K) rfl (pv 0) rfl) (pa_cons (pe_fldK (K := K) rfl (pv 0) rfl) (pa_cons (pe_fldK (K := K) rfl (pv 0) rfl) (pa_cons (C8.pe_mt0 m_live hr (by decide) (pv 0)) pa_nil)))))))
    (pss_one (ps_ret (pe_cmpR (op_eqD hr.units) (pv 2) (pe_tup (pa_cons (pe_fldK (K := K) rfl (pv 1) rfl) (pa_cons (pe_fldK (K := K) rfl (pv 1) rfl) (pa_cons (pe_fldK (K := K) rfl (pv 1) rfl) (pa_cons (pe_fldK (K := K) rfl (pv 1) rfl) (pa_cons (C8.pe_mt0 m_live hr (by decide) (pv 1)) pa_nil)))))) (nomark _)))))), ?_⟩
  obtain ⟨⟨k1, k2, n, f, r, t, g1, g2, dn1, dn2, rfl, rfl, hC1, hC2, g6, eL⟩, q⟩ := h
  obtain ⟨dx, ts, h1, _, _, _⟩ := id hC1
  obtain ⟨dx2, ts2, j1, _, _, _⟩ := id hC2
  walk_at "rd"
  refine ⟨k2.c, _, _, rfl, j1, ?_⟩
  walk_at "rd"
  refine ⟨_, _, _, _, _, rfl, h1, T.cl, T.a_n, fl_n, ?_⟩
  refine ⟨_, rfl, _, _, _, _, _, rfl, h1, T.cl, T.a_failures, fl_failures, ?_⟩
  refine ⟨_, rfl, _, _, _, _, _, rfl, h1, T.cl, T.a_factor, fl_factor, ?_⟩
  refine ⟨_, rfl, _, _, _, _, _, rfl, h1, T.cl, T.a_count, fl_count, ?_⟩
  walk_at "rd"
  refine ⟨_, _, _, rfl, h1, fl_no (by decide +kernel), ?_⟩
  walk_at "rd"
  refine ⟨k1, n, f, r, t, g1, dn1, rfl, hC1, g6, fun a H1 sm1 na ha => ?_⟩
  walk_at "rd"
  refine ⟨by show 5 ≤ sizeLine; decide, fun p np => ?_⟩
  have sp := sNew (o := .tup [.int n, .int f, .int r, .int t, .ref a]) np
  have smA : Same H _ := sm1.trans sp
  have j2 := smA _ _ j1
  have hC2' := hC2.same smA
  walk_at "rd"
  refine ⟨_, _, _, _, _, rfl, j2, T.cl, T.a_n, fl_n, ?_⟩
  refine ⟨_, rfl, _, _, _, _, _, rfl, j2, T.cl, T.a_failures, fl_failures, ?_⟩
  refine ⟨_, rfl, _, _, _, _, _, rfl, j2, T.cl, T.a_factor, fl_factor, ?_⟩
  refine ⟨_, rfl, _, _, _, _, _, rfl, j2, T.cl, T.a_count, fl_count, ?_⟩
  walk_at "rd"
  refine ⟨_, _, _, rfl, j2, fl_no (by decide +kernel), ?_⟩
  walk_at "rd"
  refine ⟨k2, n, f, r, t, g2, dn2, rfl, hC2', g6, fun b H2 sm2 nb hb => ?_⟩
  walk_at "rd"
  refine ⟨by show 5 ≤ sizeLine; decide, fun p2 np2 => ?_⟩
  have sp2 := sNew (o := .tup [.int n, .int f, .int r, .int t, .ref b]) np2
  have hp : H2 p = some (.tup [.int n, .int f, .int r, .int t, .ref a]) := sm2 _ _ upd_same
  have ha2 := sm2 _ _ (sp _ _ ha)
  refine ⟨eqD n f r t (oth n g1), eqD n f r t (oth n g2), dp_eqD (sp2 _ _ hp) (sp2 _ _ ha2), dp_eqD upd_same (sp2 _ _ hb), shp_eqD _ _ _ _ _, shp_eqD _ _ _ _ _, ?_⟩
  rw [eL, SeqAt.eqv_refl _ (SeqAt.canLay_of_shaped (shp_eqD n f r t (oth n g2)))]
  exact q _ (smA.trans (sm2.trans sp2))
abbrev sp_C_fail (K : PySem.W.Frag) : Sp := sp2 fun x y H Q => ∃ (k : CA) (n f r t : Nat) (g : List Int) (dn : List (Int × Int)) (z : Int), x = .ref k.c ∧ y = .int z ∧ Clu K H k n f r t g dn ∧ Good n f r t ∧ GG n f g ∧ z ∈ oth n g ∧ g.length < f ∧ dn.length ≤ 1000 ∧
  ∀ H', Kp [k.dd, k.dl] H H' → Clu K H' k n f r t (g ++ [z]) (dn ++ [(z, ((flN t r (oth n g).length : Nat) : Int))]) → Q (.int (flN t r (oth n g).length : Nat)) H'
/-- the dict of the dead and the list of the changes are written -/
theorem clu_write {H H1 : Hp} {k : CA} {n f r t : Nat} {g g2 : List Int} {dn dn2 : List (Int × Int)} {ts2 : List Addr} (sm : Same H H1) (h : Clu K H k n f r t g dn) (hd : H1 k.dd = some (.dK (dk g2))) (hl : H1 k.dl = some (.lst (ts2.map V.ref))) (hp : PT H1 ts2 (dn2.map fun x => [x.1, x.2])) :
    Clu K H1 k n f r t g2 dn2 := by
  obtain ⟨dx, ts, h1, _, _, _⟩ := h
  exact ⟨dx, ts2, sm _ _ h1, hd, hl, hp⟩
abbrev N_C_fail : List Str := ["self", "server", "many"]
theorem sc_C_fail : FnScope N_C_fail ["self", "server"] (defScope s_C_fail) := ⟨rfl, rfl, rfl, by decide +kernel, rfl, by decide +kernel, by decide +kernel⟩
theorem ok_C_fail (T : Tx K mg) : C8.Met P w K mg base 4 (Cc K) "fail" (sp_C_fail K) [] := by
  have m_live := ok_C_live (P := P) (w := w) (K := K) (mg := mg) (base := base) T
  have m_load := ok_C_load (P := P) (w := w) (K := K) (mg := mg) (base := base) T
  have m_check_failure := ok_C_check_failure (P := P) (w := w) (K := K) (mg := mg) (base := base) T
  refine metD (k := 3) (N := N_C_fail) (ps := ["self", "server"]) T.cl T.m_fail T.f_C_fail (fun _ _ _ _ _ _ us hl => match us, hl with | [_, _], _ => rfl) sc_C_fail len2 (fun cdv A outer s H vs Q E hr h => ?_)
  obtain ⟨x1, x2, rfl, h⟩ := h
  refine ⟨_, (pss_cons (ps_expr (C8.pe_mt m_check_failure hr (by decide) (pv 0) (pa_cons (pv 1) pa_nil)))
    (pss_cons (ps_set (i := 2) sc_C_fail.nd rfl (Or.inl rfl) (pe_ifExp (pt_cmpR op_gt (pe_callB call_len_seq (by rfl) T.n_len PySem.boot_len (pa_cons (C8.pe_mt0 m_live hr (by decide) (pv 0)) pa_nil)) (pe_fldK (K := K) rfl (pv 0) rfl) (nomark _)) (C8.pe_mt m_load hr (by decide) (pv 0) (pa_cons (pv 1) pa_nil)) pe_int))
    (pss_cons (ps_dput (hu_of hr) (pe_fldK (K := K) rfl (pv 0) rfl) (pv 1) pe_bl rfl)
    (pss_cons (ps_expr (pe_bm PySem.F.plainAttrs_list PySem.F.slot_list_append PySem.F.type_list_append mt_append (pe_fldK (K := K) rfl (pv 0) rfl) (pa_cons (pe_tup (pa_cons (pv 1) (pa_cons (pv 2) pa_nil))) pa_nil)))
    (pss_one (ps_ret (pv 2))))))), ?_⟩
  obtain ⟨k, n, f, r, t, g, dn, z, rfl, rfl, hC, hG, hgg, hz, hl, hdn, q⟩ := h
  obtain ⟨dx, ts, h1, h2, h3, h4⟩ := id hC
  have g6 := hG.gt.n6
  have tl : ts.length ≤ 1000 := by rw [h4.len, List.length_map]; exact hdn
  have nz : z ∉ g := (mem_oth.mp hz).2
  have ncd : k.c ≠ k.dd := ne_of h1 h2 (by intro z; cases z)
  have ncl : k.c ≠ k.dl := ne_of h1 h3 (by intro z; cases z)
  have ndl : k.dd ≠ k.dl := ne_of h2 h3 (by intro z; cases z)
  have fin : ∀ H1, Same H H1 → ∀ (q2 : ∀ H', Kp [k.dd, k.dl] H H' → Clu K H' k n f r t (g ++ [z]) (dn ++ [(z, ((flN t r (oth n g).length : Nat) : Int))]) → Q (.int (flN t r (oth n g).length : Nat)) H'),
      ∃ (a : Addr) (H4 : Hp), V.ref k.dd = .ref a ∧ DPut H1 a (.int z) (.bl true) H4 ∧ (tDrop (tBM K "list" rAppend (tFld K (tVar 0) "done") (tCons (tTup (tCons (tVar 1) (tCons (tVar 2) tNil))) tNil)))
        { nx := tRet (tVar 2) { nx := fun x H' => Q V.non H', rt := Q }, rt := Q } [some (.ref k.c), some (.int z), some (.int (flN t r (oth n g).length : Nat))] H4 := by
    intro H1 sm q2
    refine ⟨k.dd, _, rfl, DPut.k (k := Sum.inl z) (sm _ _ h2) (by rw [dk_len]; exact small1000 (by have := hG.fn; omega)), ?_⟩
    rw [dk_put nz]
    have e1 : (upd H1 k.dd (.dK (dk (g ++ [z])))) k.c = _ := (upd_ne ncd).trans (sm _ _ h1)
    have e3 : (upd H1 k.dd (.dK (dk (g ++ [z])))) k.dl = _ := (upd_ne ndl.symm).trans (sm _ _ h3)
    walk_at "rd"
    refine ⟨_, _, _, _, _, rfl, e1, T.cl, T.a_done, fl_done, ?_⟩
    refine ⟨.inl ⟨rfl, _, SqL.of e3⟩, ?_⟩
    walk_at "rd"
    refine ⟨by show 2 ≤ sizeLine; decide, fun p np => ?_⟩
    walk_at "rd"
    have e4 := sNew (o := .tup [.int z, .int (flN t r (oth n g).length : Nat)]) np _ _ e3
    refine ⟨_, _, _, rfl, rfl, e4, by rw [List.length_map]; exact small1000 tl, ?_⟩
    walk_at "rd"
    have np1 : p ≠ k.dd := fun e => by rw [e, upd_same] at np; cases np
    have np2 : p ≠ k.dl := fun e => by rw [e, e3] at np; cases np
    have np0 : H1 p = none := by rw [upd_ne np1] at np; exact np
    have npc : k.c ≠ p := ne_of_none e1 np
    refine q2 _ (fun b o nb e => ?_) ⟨dx, ts ++ [p], ?_, ?_, ?_, ?_⟩
    · have m1 : b ≠ k.dd := fun z => nb (by rw [z]; exact List.mem_cons_self ..)
      have m2 : b ≠ k.dl := fun z => nb (by rw [z]; exact List.mem_cons_of_mem _ (List.mem_cons_self ..))
      have m3 := sm _ _ e
      rw [upd_ne m2, upd_ne (ne_of_none m3 np0), upd_ne m1]
      exact m3
    · rw [upd_ne ncl, upd_ne npc]
      exact e1
    · rw [upd_ne ndl, upd_ne np1.symm, upd_same]
    · rw [upd_same, List.map_append]
      rfl
    · rw [List.map_append]
      refine PT.snoc ?_ (h4.up fun b xs e => ?_)
      · show upd _ k.dl _ p = _
        rw [upd_ne np2, upd_same]
        rfl
      · have m3 := sm _ _ e
        rw [upd_ne (ne_of m3 (sm _ _ h3) (by intro z; cases z)), upd_ne (ne_of_none m3 np0), upd_ne (ne_of m3 (sm _ _ h2) (by intro z; cases z))]
        exact m3
  walk_at "rd"
  refine ⟨_, _, _, rfl, h1, fl_no (by decide +kernel), ?_⟩
  walk_at "rd"
  refine ⟨k, n, f, r, t, g, dn, z, rfl, rfl, hC, hz, hl, ?_⟩
  walk_at "rd"
  refine ⟨_, _, _, rfl, h1, fl_no (by decide +kernel), ?_⟩
  walk_at "rd"
  refine ⟨k, n, f, r, t, g, dn, rfl, hC, g6, fun b H1 sm1 nb hb => ?_⟩
  have c1 := sm1 _ _ h1
  walk_at "rd"
  refine ⟨b, _, rfl, .inr (SqT.of hb), ?_⟩
  rw [List.length_map]
  walk_at "rd"
  refine ⟨_, _, _, _, _, rfl, c1, T.cl, T.a_factor, fl_factor, ?_⟩
  walk_at "rd"
  unfold flN at q fin
  refine ite2 (fun c => ?_) (fun c => ?_)
  · have cc : r < (oth n g).length := by have := of_decide_eq_true c; omega
    rw [if_pos cc] at q fin
    walk_at "rd"
    refine ⟨_, _, _, rfl, c1, fl_no (by decide +kernel), ?_⟩
    walk_at "rd"
    refine ⟨k, n, f, r, t, g, dn, z, rfl, rfl, hC.same sm1, hG, hz, fun H2 sm2 => ?_⟩
    have sm := sm1.trans sm2
    walk_at "rd"
    refine ⟨_, _, _, _, _, rfl, sm _ _ h1, T.cl, T.a_dead, fl_dead, ?_⟩
    walk_at "rd"
    exact fin H2 sm q
  · have cc : ¬ r < (oth n g).length := fun z => c (decide_eq_true (by omega))
    rw [if_neg cc] at q fin
    walk_at "rd"
    refine ⟨_, _, _, _, _, rfl, c1, T.cl, T.a_dead, fl_dead, ?_⟩
    walk_at "rd"
    exact fin H1 sm1 q
end
end EF
namespace EF
open PySem PySem.Spec PyProof.Rows L2
local macro_rules | `(tactic| walk_at "rd") => `(tactic| repeat (first
  | refine ⟨_, rfl, ?_⟩ | refine ⟨rfl, ?_⟩ | refine ⟨_, _, rfl, ?_⟩ | refine ⟨_, _, rfl, rfl, ?_⟩ | refine ⟨_, _, _, rfl, ?_⟩ | refine ⟨_, _, _, rfl, rfl, rfl, ?_⟩ | refine ⟨_, _, _, _, rfl, ?_⟩ | refine ⟨_, _, _, _, rfl, rfl, rfl, rfl, ?_⟩ | refine ⟨_, _, _, _, _, rfl, ?_⟩))
section
variable {P : Program} {w : World} {K : PySem.W.Frag} {mg : Str → Option Value} {base : Heap}
theorem PT.unsnoc {H : Hp} {o : List Int} : ∀ {ps : List Addr} {os : List (List Int)}, PT H ps (os ++ [o]) → ∃ ps' p, ps = ps' ++ [p] ∧ PT H ps' os ∧ TI H p o
  | [p], [], h => ⟨[], p, rfl, trivial, h.1⟩
  | p :: q :: ps, [], h => h.2.elim
  | [], [], h => h.elim
  | [], _ :: _, h => h.elim
  | p :: ps, x :: os, h => by
    obtain ⟨ps', p', rfl, h2, h3⟩ := PT.unsnoc (ps := ps) (os := os) h.2
    exact ⟨p :: ps', p', rfl, ⟨h.1, h2⟩, h3⟩
theorem dp_pt {K : PySem.W.Frag} {H : Hp} : ∀ {ps : List Addr} {os : List (List Int)}, PT H ps os → DpAll K H (ps.map V.ref) (os.map tupD)
  | [], [], _ => .nil
  | _ :: _, _ :: _, ⟨a, b⟩ => .cons (dp_tup a) (dp_pt b)
  | [], _ :: _, h => h.elim
  | _ :: _, [], h => h.elim
theorem shp_tups (os : List (List Int)) : Shp 2 (.list (os.map tupD)) := shp_list fun d hd => by
  obtain ⟨o, _, rfl⟩ := List.mem_map.mp hd
  exact shp_tupD o
theorem shp_nil : Shp 1 (.list []) := shp_list (k := 0) fun d hd => by cases hd
theorem mem_rmv {g : List Int} {z x : Int} : x ∈ rmv g z ↔ x ∈ g ∧ x ≠ z := by
  unfold rmv
  rw [List.mem_filter]
  simp
abbrev sp_C_recover (K : PySem.W.Frag) : Sp := sp2 fun x y H Q => ∃ (k : CA) (n f r t : Nat) (g : List Int) (dn : List (Int × Int)) (z : Int), x = .ref k.c ∧ y = .int z ∧ Clu K H k n f r t g dn ∧ Good n f r t ∧ GG n f g ∧ z ∈ g ∧ dn.length ≤ 1000 ∧
  ∀ H', Kp [k.dd, k.dl] H H' → Clu K H' k n f r t (rmv g z) (dn ++ [(z, ((ldN t r (oth n (rmv g z)).length : Nat) : Int))]) → Q (.int (ldN t r (oth n (rmv g z)).length : Nat)) H'
abbrev N_C_recover : List Str := ["self", "server", "many"]
theorem sc_C_recover : FnScope N_C_recover ["self", "server"] (defScope s_C_recover) := ⟨rfl, rfl, rfl, by decide +kernel, rfl, by decide +kernel, by decide +kernel⟩
theorem ok_C_recover (T : Tx K mg) : C8.Met P w K mg base 4 (Cc K) "recover" (sp_C_recover K) [] := by
  have m_load := ok_C_load (P := P) (w := w) (K := K) (mg := mg) (base := base) T
  have c_is_integer_cluster := ok_is_integer_cluster (P := P) (w := w) (K := K) (mg := mg) (base := base) T
  refine metD (k := 3) (N := N_C_recover) (ps := ["self", "server"]) T.cl T.m_recover T.f_C_recover (fun _ _ _ _ _ _ us hl => match us, hl with | [_, _], _ => rfl) sc_C_recover len2 (fun cdv A outer s H vs Q E hr h => ?_)
  obtain ⟨x1, x2, rfl, h⟩ := h
  refine ⟨_, (pss_cons (ps_if (PW.pt (pw_or (pt_not (pt_val (C8.pe_c c_is_integer_cluster hr (by decide) (by rfl) (pa_cons (pv 1) (pa_cons pe_int (pa_cons (pe_op op_sub (pe_fldK (K := K) rfl (pv 0) rfl) pe_int) pa_nil)))))) (pw_or1 (pt_cmp (pc_dnotin (hu_of hr) (pv 1) (pe_fldK (K := K) rfl (pv 0) rfl)) rfl))))
    (pss_one ps_never)
    pss_nil)
    (pss_cons (ps_expr (pe_dpop1 (pe_fldK (K := K) rfl (pv 0) rfl) (pv 1) ⟨rfl, rfl, rfl, rfl⟩))
    (pss_cons (ps_set (i := 2) sc_C_recover.nd rfl (Or.inl rfl) (C8.pe_mt m_load hr (by decide) (pv 0) (pa_cons (pv 1) pa_nil)))
    (pss_cons (ps_expr (pe_bm PySem.F.plainAttrs_list PySem.F.slot_list_append PySem.F.type_list_append mt_append (pe_fldK (K := K) rfl (pv 0) rfl) (pa_cons (pe_tup (pa_cons (pv 1) (pa_cons (pv 2) pa_nil))) pa_nil)))
    (pss_one (ps_ret (pv 2))))))), ?_⟩
  obtain ⟨k, n, f, r, t, g, dn, z, rfl, rfl, hC, hG, hgg, hz, hdn, q⟩ := h
  obtain ⟨dx, ts, h1, h2, h3, h4⟩ := id hC
  have g6 := hG.gt.n6
  have tl : ts.length ≤ 1000 := by rw [h4.len, List.length_map]; exact hdn
  have hz2 := hgg.sub z hz
  have ncd : k.c ≠ k.dd := ne_of h1 h2 (by intro z; cases z)
  have ncl : k.c ≠ k.dl := ne_of h1 h3 (by intro z; cases z)
  have ndl : k.dd ≠ k.dl := ne_of h2 h3 (by intro z; cases z)
  walk_at "rd"
  refine ⟨_, _, _, _, _, rfl, h1, T.cl, T.a_n, fl_n, ?_⟩
  walk_at "rd"
  refine ⟨hz2.1, by omega, ?_⟩
  walk_at "rd"
  refine ⟨_, _, _, _, _, rfl, h1, T.cl, T.a_dead, fl_dead, ?_⟩
  refine ⟨_, _, rfl, DGet.k (k := Sum.inl z) h2, ?_⟩
  walk_at "rd"
  rw [dk_some, decide_eq_true hz]
  walk_at "rd"
  refine ⟨_, _, _, _, _, rfl, h1, T.cl, T.a_dead, fl_dead, ?_⟩
  refine ⟨_, rfl, .inl ⟨_, .inl h2⟩, ?_⟩
  walk_at "rd"
  refine ⟨_, Sum.inl z, .bl true, h2, rfl, by rw [dk_val, if_pos hz], ?_⟩
  rw [dk_drop]
  have w1 : (upd H k.dd (.dK (dk (rmv g z)))) k.c = _ := (upd_ne ncd).trans h1
  have w3 : (upd H k.dd (.dK (dk (rmv g z)))) k.dl = _ := (upd_ne ndl.symm).trans h3
  have w4 : ∀ b xs, H b = some (.tup xs) → (upd H k.dd (.dK (dk (rmv g z)))) b = some (.tup xs) := fun b xs e => (upd_ne (ne_of e h2 (by intro z; cases z))).trans e
  have hC1 : Clu K (upd H k.dd (.dK (dk (rmv g z)))) k n f r t (rmv g z) dn := ⟨dx, ts, w1, upd_same, w3, h4.up w4⟩
  walk_at "rd"
  refine ⟨_, _, _, rfl, w1, fl_no (by decide +kernel), ?_⟩
  walk_at "rd"
  refine ⟨k, n, f, r, t, rmv g z, dn, z, rfl, rfl, hC1, hG, mem_oth.mpr ⟨hz2, fun m => (mem_rmv.mp m).2 rfl⟩, fun H1 sm => ?_⟩
  have e1 := sm _ _ w1
  have e3 := sm _ _ w3
  walk_at "rd"
  refine ⟨_, _, _, _, _, rfl, e1, T.cl, T.a_done, fl_done, ?_⟩
  refine ⟨.inl ⟨rfl, _, SqL.of e3⟩, ?_⟩
  walk_at "rd"
  refine ⟨by show 2 ≤ sizeLine; decide, fun p np => ?_⟩
  have e4 := sNew (o := .tup [.int z, .int (ldN t r (oth n (rmv g z)).length : Nat)]) np _ _ e3
  refine ⟨_, _, _, rfl, rfl, e4, by rw [List.length_map]; exact small1000 tl, ?_⟩
  walk_at "rd"
  have np2 : p ≠ k.dl := fun e => by rw [e, e3] at np; cases np
  have npd : k.dd ≠ p := ne_of_none (sm _ _ upd_same) np
  have npc : k.c ≠ p := ne_of_none e1 np
  refine q _ (fun b o nb e => ?_) ⟨dx, ts ++ [p], ?_, ?_, ?_, ?_⟩
  · have m1 : b ≠ k.dd := fun z => nb (by rw [z]; exact List.mem_cons_self ..)
    have m2 : b ≠ k.dl := fun z => nb (by rw [z]; exact List.mem_cons_of_mem _ (List.mem_cons_self ..))
    have m3 := sm b o ((upd_ne m1).trans e)
    rw [upd_ne m2, upd_ne (ne_of_none m3 np)]
    exact m3
  · rw [upd_ne ncl, upd_ne npc]
    exact e1
  · rw [upd_ne ndl, upd_ne npd]
    exact sm _ _ upd_same
  · rw [upd_same, List.map_append]
    rfl
  · rw [List.map_append]
    refine PT.snoc ?_ (h4.up fun b xs e => ?_)
    · show upd _ k.dl _ p = _
      rw [upd_ne np2, upd_same]
      rfl
    · have m3 := sm _ _ (w4 _ _ e)
      rw [upd_ne (ne_of m3 e3 (by intro z; cases z)), upd_ne (ne_of_none m3 np)]
      exact m3
abbrev sp_C_undo (K : PySem.W.Frag) : Sp := sp1 fun x H Q => ∃ (k : CA) (n f r t : Nat) (g : List Int) (dn : List (Int × Int)) (z m : Int), x = .ref k.c ∧ Clu K H k n f r t g (dn ++ [(z, m)]) ∧ g.length ≤ 1000 ∧
  ∀ H', Kp [k.dd, k.dl] H H' → Clu K H' k n f r t (if z ∈ g then rmv g z else g ++ [z]) dn → Q (.int z) H'
abbrev N_C_undo : List Str := ["self", "server", "many"]
theorem sc_C_undo : FnScope N_C_undo ["self"] (defScope s_C_undo) := ⟨rfl, rfl, rfl, by decide +kernel, rfl, by decide +kernel, by decide +kernel⟩
theorem ok_C_undo (T : Tx K mg) : C8.Met P w K mg base 1 (Cc K) "undo" (sp_C_undo K) [] := by
  refine metD (k := 0) (N := N_C_undo) (ps := ["self"]) T.cl T.m_undo T.f_C_undo (fun _ _ _ _ _ _ us hl => match us, hl with | [_], _ => rfl) sc_C_undo len1 (fun cdv A outer s H vs Q E hr h => ?_)
  obtain ⟨x1, rfl, h⟩ := h
  refine ⟨_, (pss_cons (ps_if (pt_cmpR (op_eqD hr.units) (pe_fldK (K := K) rfl (pv 0) rfl) (pe_lst pa_nil) (nomark _))
    (pss_one ps_never)
    pss_nil)
    (pss_cons (ps_asg (pe_bm0 PySem.F.plainAttrs_list PySem.F.slot_list_pop PySem.F.type_list_pop mt_pop (pe_fldK (K := K) rfl (pv 0) rfl)) (pg_tup rfl (pgs_cons (pg_name (i := 1) sc_C_undo.nd rfl (Or.inl rfl)) (pgs_cons (pg_name (i := 2) sc_C_undo.nd rfl (Or.inl rfl)) pgs_nil))))
    (pss_cons (ps_if (pt_cmp (pc_din (hu_of hr) (pv 1) (pe_fldK (K := K) rfl (pv 0) rfl)) rfl)
    (pss_one (ps_expr (pe_dpop1 (pe_fldK (K := K) rfl (pv 0) rfl) (pv 1) ⟨rfl, rfl, rfl, rfl⟩)))
    (pss_one (ps_dput (hu_of hr) (pe_fldK (K := K) rfl (pv 0) rfl) (pv 1) pe_bl rfl)))
    (pss_one (ps_ret (pv 1)))))), ?_⟩
  obtain ⟨k, n, f, r, t, g, dn, z, m, rfl, hC, hgl, q⟩ := h
  obtain ⟨dx, ts, h1, h2, h3, h4⟩ := id hC
  have ncd : k.c ≠ k.dd := ne_of h1 h2 (by intro z; cases z)
  have ncl : k.c ≠ k.dl := ne_of h1 h3 (by intro z; cases z)
  have ndl : k.dd ≠ k.dl := ne_of h2 h3 (by intro z; cases z)
  walk_at "rd"
  refine ⟨_, _, _, _, _, rfl, h1, T.cl, T.a_done, fl_done, ?_⟩
  refine ⟨Nat.zero_le _, fun e0 ne0 => ?_⟩
  have s0 := sNew (o := .lst []) ne0
  have dp := dp_pt (K := K) (h4.up fun b xs e => s0 _ _ e)
  refine ⟨_, .list [], .lst (SqL.of (s0 _ _ h3)) dp, .lst (SqL.of upd_same) .nil, (shp_tups _).ok (by decide), shp_nil.ok (by decide), ?_⟩
  rw [List.map_append] at h4
  obtain ⟨ts', p, rfl, h5, h6⟩ := h4.unsnoc
  have ef : PyData.eqv (.list (((dn ++ [(z, m)]).map fun x => [x.1, x.2]).map tupD)) (.list []) = false := by
    rw [List.map_append, List.map_append]
    cases (dn.map fun x => [x.1, x.2]).map tupD <;> rfl
  rw [ef]
  walk_at "rd"
  have c1 := s0 _ _ h1
  have c2 := s0 _ _ h2
  have c3 := s0 _ _ h3
  refine ⟨_, _, _, _, _, rfl, c1, T.cl, T.a_done, fl_done, ?_⟩
  refine ⟨.inl ⟨rfl, _, SqL.of c3⟩, ?_⟩
  refine ⟨_, _, .ref p, rfl, rfl, c3, by rw [List.map_append, List.length_append, List.getElem?_append_right (by simp)]; simp, ?_⟩
  rw [List.map_append, List.map_singleton, List.dropLast_concat]
  have ptup : ∀ b xs, H b = some (.tup xs) → (upd (upd H e0 (.lst [])) k.dl (.lst (ts'.map V.ref))) b = some (.tup xs) := fun b xs e => (upd_ne (ne_of (s0 _ _ e) c3 (by intro z; cases z))).trans (s0 _ _ e)
  have u1 : (upd (upd H e0 (.lst [])) k.dl (.lst (ts'.map V.ref))) k.c = _ := (upd_ne ncl).trans c1
  have u2 : (upd (upd H e0 (.lst [])) k.dl (.lst (ts'.map V.ref))) k.dd = _ := (upd_ne ndl).trans c2
  refine ⟨p, _, rfl, SqT.of (ptup _ _ h6), rfl, ?_⟩
  walk_at "rd"
  refine ⟨_, _, _, _, _, rfl, u1, T.cl, T.a_dead, fl_dead, ?_⟩
  refine ⟨_, _, rfl, DGet.k (k := Sum.inl z) u2, ?_⟩
  walk_at "rd"
  rw [dk_some]
  have keep : ∀ (o : HO), Kp [k.dd, k.dl] H (upd (upd (upd H e0 (.lst [])) k.dl (.lst (ts'.map V.ref))) k.dd o) := fun o b u nb e => by
    have m1 : b ≠ k.dd := fun z => nb (by rw [z]; exact List.mem_cons_self ..)
    have m2 : b ≠ k.dl := fun z => nb (by rw [z]; exact List.mem_cons_of_mem _ (List.mem_cons_self ..))
    rw [upd_ne m1, upd_ne m2]
    exact s0 _ _ e
  have fin : ∀ g2 : List Int, Clu K (upd (upd (upd H e0 (.lst [])) k.dl (.lst (ts'.map V.ref))) k.dd (.dK (dk g2))) k n f r t g2 dn := fun g2 =>
    ⟨dx, ts', (upd_ne ncd).trans u1, upd_same, (upd_ne ndl.symm).trans upd_same, h5.up fun b xs e => (upd_ne (ne_of (ptup _ _ e) u2 (by intro z; cases z))).trans (ptup _ _ e)⟩
  refine ite2 (fun c => ?_) (fun c => ?_)
  · have hz := of_decide_eq_true c
    rw [if_pos hz] at q
    walk_at "rd"
    refine ⟨_, _, _, _, _, rfl, u1, T.cl, T.a_dead, fl_dead, ?_⟩
    refine ⟨_, rfl, .inl ⟨_, .inl u2⟩, ?_⟩
    walk_at "rd"
    refine ⟨_, Sum.inl z, .bl true, u2, rfl, by rw [dk_val, if_pos hz], ?_⟩
    rw [dk_drop]
    walk_at "rd"
    exact q _ (keep _) (fin _)
  · have hz : z ∉ g := fun e => c (decide_eq_true e)
    rw [if_neg hz] at q
    walk_at "rd"
    refine ⟨_, _, _, _, _, rfl, u1, T.cl, T.a_dead, fl_dead, ?_⟩
    walk_at "rd"
    refine ⟨_, _, rfl, DPut.k (k := Sum.inl z) u2 (by rw [dk_len]; exact small1000 hgl), ?_⟩
    rw [dk_put hz]
    walk_at "rd"
    exact q _ (keep _) (fin _)
abbrev sp_C_copy (K : PySem.W.Frag) : Sp := sp1 fun x H Q => ∃ (k : CA) (n f r t : Nat) (g : List Int) (dn : List (Int × Int)), x = .ref k.c ∧ Clu K H k n f r t g dn ∧ Good n f r t ∧
  ∀ (k' : CA) H', Same H H' → H k'.c = none → H k'.dd = none → H k'.dl = none → Clu K H' k' n f r t g dn → Q (.ref k'.c) H'
abbrev N_C_copy : List Str := ["self", "other"]
theorem sc_C_copy : FnScope N_C_copy ["self"] (defScope s_C_copy) := ⟨rfl, rfl, rfl, by decide +kernel, rfl, by decide +kernel, by decide +kernel⟩
theorem ok_C_copy (T : Tx K mg) : C8.Met P w K mg base 7 (Cc K) "copy" (sp_C_copy K) [] := by
  have k_init := ok_C_init (P := P) (w := w) (K := K) (mg := mg) (base := base) T
  refine metD (k := 6) (N := N_C_copy) (ps := ["self"]) T.cl T.m_copy T.f_C_copy (fun _ _ _ _ _ _ us hl => match us, hl with | [_], _ => rfl) sc_C_copy len1 (fun cdv A outer s H vs Q E hr h => ?_)
  obtain ⟨x1, rfl, h⟩ := h
  refine ⟨_, (pss_cons (ps_set (i := 1) sc_C_copy.nd rfl (Or.inl rfl) (C8.pe_mk k_init hr (by decide) (by rfl) (pa_cons (pe_fldK (K := K) rfl (pv 0) rfl) (pa_cons (pe_fldK (K := K) rfl (pv 0) rfl) (pa_cons (pe_fldK (K := K) rfl (pv 0) rfl) (pa_cons (pe_fldK (K := K) rfl (pv 0) rfl) pa_nil))))))
    (pss_cons (ps_fld (pv 1) (pe_callTy call_dictD (by rfl) T.n_dict (by decide +kernel) (pa_cons (pe_fldK (K := K) rfl (pv 0) rfl) pa_nil)) rfl)
    (pss_cons (ps_fld (pv 1) (pe_callTy call_list_of (by rfl) T.n_list (by decide +kernel) (pa_cons (pe_fldK (K := K) rfl (pv 0) rfl) pa_nil)) rfl)
    (pss_one (ps_ret (pv 1)))))), ?_⟩
  obtain ⟨k, n, f, r, t, g, dn, rfl, hC, hG, q⟩ := h
  obtain ⟨dx, ts, h1, h2, h3, h4⟩ := id hC
  walk_at "rd"
  refine ⟨_, _, _, _, _, rfl, h1, T.cl, T.a_n, fl_n, ?_⟩
  refine ⟨_, rfl, _, _, _, _, _, rfl, h1, T.cl, T.a_failures, fl_failures, ?_⟩
  refine ⟨_, rfl, _, _, _, _, _, rfl, h1, T.cl, T.a_factor, fl_factor, ?_⟩
  refine ⟨_, rfl, _, _, _, _, _, rfl, h1, T.cl, T.a_count, fl_count, ?_⟩
  intro x dx2 nx ndx nex
  refine ⟨_, _, _, _, _, rfl, x, n, f, r, t, rfl, rfl, rfl, rfl, rfl, dx2, upd_same, hG, fun dd dl H1 kp ndd ndl nd hC1 => ⟨rfl, ?_⟩⟩
  have sm1 : Same H H1 := fun b o e => kp b o (fun z => by rw [List.mem_singleton.mp z, nx] at e; cases e) (by rw [upd_ne (ne_of_none e nx), upd_ne (ne_of_none e ndx)]; exact e)
  have back : ∀ b, upd (upd H dx2 (.own x)) x (.ins (Cc K) dx2 []) b = none → H b = none := fun b e => by
    have nb : b ≠ x := fun z => by rw [z, upd_same] at e; cases e
    have nb2 : b ≠ dx2 := fun z => by rw [z, upd_ne nex, upd_same] at e; cases e
    rw [upd_ne nb, upd_ne nb2] at e
    exact e
  obtain ⟨dx3, ts3, j1, j2, j3, j4⟩ := id hC1
  walk_at "rd"
  refine ⟨_, _, _, _, _, rfl, sm1 _ _ h1, T.cl, T.a_dead, fl_dead, ?_⟩
  refine ⟨_, _, rfl, .inl (sm1 _ _ h2), fun d2 nd2 => ?_⟩
  have s2 := sNew (o := .dK (dk g)) nd2
  walk_at "rd"
  refine ⟨_, _, _, _, rfl, s2 _ _ j1, T.cl, T.a_dead, fl_len, ?_⟩
  rw [fl_putdead]
  have nxd2 : x ≠ d2 := ne_of_none j1 nd2
  have ncx : k.c ≠ x := fun e => by rw [e, nx] at h1; cases h1
  have ndx' : k.dl ≠ x := fun e => by rw [e, nx] at h3; cases h3
  have a1 : (upd (upd H1 d2 (.dK (dk g))) x (.ins (Cc K) dx3 (flds n f r t d2 dl))) k.c = _ := (upd_ne ncx).trans (s2 _ _ (sm1 _ _ h1))
  have a3 : (upd (upd H1 d2 (.dK (dk g))) x (.ins (Cc K) dx3 (flds n f r t d2 dl))) k.dl = _ := (upd_ne ndx').trans (s2 _ _ (sm1 _ _ h3))
  walk_at "rd"
  refine ⟨_, _, _, _, _, rfl, a1, T.cl, T.a_done, fl_done, ?_⟩
  refine ⟨_, _, rfl, .inl (SqL.of a3), fun l2 nl2 => ?_⟩
  have s3 := sNew (o := .lst (ts.map V.ref)) nl2
  have a4 := s3 x _ upd_same
  walk_at "rd"
  refine ⟨_, _, _, _, rfl, a4, T.cl, T.a_done, fl_len, ?_⟩
  rw [fl_putdone]
  have nxl2 : x ≠ l2 := fun e => by rw [← e, upd_same] at nl2; cases nl2
  have ndl2 : d2 ≠ l2 := fun e => by rw [← e, upd_ne nxd2.symm, upd_same] at nl2; cases nl2
  walk_at "rd"
  refine q ⟨x, d2, l2⟩ _ (fun b o e => ?_) nx (sm1.free nd2) ?_ ⟨dx3, ts, upd_same, ?_, ?_, ?_⟩
  · have nb : b ≠ x := ne_of_none e nx
    rw [upd_ne nb]
    refine s3 _ _ ?_
    rw [upd_ne nb]
    exact s2 _ _ (sm1 _ _ e)
  · rw [upd_ne nxl2.symm, upd_ne ndl2.symm] at nl2
    exact sm1.free nl2
  · show upd _ x _ d2 = _
    rw [upd_ne nxd2.symm, upd_ne ndl2, upd_ne nxd2.symm, upd_same]
  · show upd _ x _ l2 = _
    rw [upd_ne nxl2.symm, upd_same]
  · refine h4.up fun b xs e => ?_
    have nb : b ≠ x := ne_of_none e nx
    rw [upd_ne nb]
    refine s3 _ _ ?_
    rw [upd_ne nb]
    exact s2 _ _ (sm1 _ _ e)
end
end EF
namespace EF
open PySem PySem.Spec PyProof.Rows L2
local macro_rules | `(tactic| walk_at "rd") => `(tactic| repeat (first
  | refine ⟨_, rfl, ?_⟩ | refine ⟨rfl, ?_⟩ | refine ⟨_, _, rfl, ?_⟩ | refine ⟨_, _, rfl, rfl, ?_⟩ | refine ⟨_, _, _, rfl, ?_⟩ | refine ⟨_, _, _, rfl, rfl, rfl, ?_⟩ | refine ⟨_, _, _, _, rfl, ?_⟩ | refine ⟨_, _, _, _, rfl, rfl, rfl, rfl, ?_⟩ | refine ⟨_, _, _, _, _, rfl, ?_⟩))
section
variable {P : Program} {w : World} {K : PySem.W.Frag} {mg : Str → Option Value} {base : Heap}
open SX TL
/-! ### texts -/
theorem fz_digits : ("0123456789" : Str).cps.toList = [48, 49, 50, 51, 52, 53, 54, 55, 56, 57] := by decide +kernel
theorem dig_in {c : Nat} (h1 : 48 ≤ c) (h2 : c ≤ 57) : c ∈ ("0123456789" : Str).cps.toList := by
  rw [fz_digits]
  simp only [List.mem_cons, List.not_mem_nil, or_false]
  omega
theorem num_lead : ∀ n : Nat, n < 201 → (numL n).length ≤ 1 ∨ (numL n)[0]? ≠ some 48 := by decide +kernel
theorem num_len {n : Nat} (h : n ≤ 200) : 1 ≤ (numL n).length ∧ (numL n).length ≤ 3 := by
  refine ⟨?_, numL_len (by decide) (by omega)⟩
  have := numL_ne n
  cases e : numL n with
  | nil => exact absurd e this
  | cons a r => simp
theorem log_small {n : Nat} (h : n ≤ 1000) : ((n : Int)).natAbs.log2 < 1920 := by
  have : ((n : Int)).natAbs = n := by omega
  rw [this]
  exact Nat.lt_of_le_of_lt (Nat.log2_le_self n) (by omega)
theorem int_numS {n : Nat} (h : n ≤ 200) : PySem.intText? (S (numL n)) = some (n : Int) := by
  rw [← num_S]
  exact int_num (by have := (num_len h).2; omega)
theorem ne_sign {c d : Nat} (h : c ≠ d) : decide (V.str ⟨#[c]⟩ = V.str ⟨#[d]⟩) = false := decide_eq_false fun e => by
  have e2 := V.str.inj e
  injection e2 with e3
  have e4 := congrArg Array.toList e3
  simp at e4
  exact h e4
abbrev sp_integer_of (K : PySem.W.Frag) : Sp := sp1 fun x H Q => ∃ n : Nat, x = .str (S (numL n)) ∧ n ≤ 200 ∧ ∀ H', Same H H' → Q (.int n) H'
abbrev N_integer_of : List Str := ["word", "sign"]
theorem sc_integer_of : FnScope N_integer_of ["word"] (defScope s_integer_of) := ⟨rfl, rfl, rfl, by decide +kernel, rfl, by decide +kernel, by decide +kernel⟩
theorem ok_integer_of (T : Tx K mg) : C8.Cal P w K mg base 1 "integer_of" (sp_integer_of K) [] := by
  refine calD (k := 0) (N := N_integer_of) (ps := ["word"]) T.g_integer_of T.f_integer_of (fun _ _ _ _ _ _ us hl => match us, hl with | [_], _ => rfl) sc_integer_of len1 (fun cdv A outer s H vs Q E hr h => ?_)
  obtain ⟨x1, rfl, h⟩ := h
  refine ⟨_, (pss_cons (ps_if (PW.pt (pw_or (pt_not (pt_chain op_le op_le pe_int (pe_callB call_len_str (by rfl) T.n_len PySem.boot_len (pa_cons (pv 0) pa_nil)) (C8.pe_gc (by rfl) T.k_MOST_DIGITS))) (pw_or1 (pt_not (pt_val (pe_callB (cr_all rfl) (by rfl) T.n_all (by decide +kernel) (pa_cons (pe_lc (own := [("sign", 1)]) (g := gName 1) (tt := tYes) rfl sc_integer_of.nd (pi_str (pv 0)) (blkOk_by (own := [("sign", 1)]) (N := N_integer_of) (sc := defScope s_integer_of) (by decide +kernel)) (fun _ _ _ _ _ => pg_name (i := 1) sc_integer_of.nd rfl (Or.inl rfl)) (fun _ _ _ _ _ => pts_nil) (fun _ _ _ _ _ => (pe_cmpR op_in_sign (pv 1) (C8.pe_gc (by rfl) T.k_DIGITS) rfl))) pa_nil)))))))
    (pss_one (ps_ret pe_non))
    pss_nil)
    (pss_one (ps_ret (pe_ifExp (PW.pt (pw_and (pt_cmpR op_gt (pe_callB call_len_str (by rfl) T.n_len PySem.boot_len (pa_cons (pv 0) pa_nil)) pe_int (nomark _)) (pw_and1 (pt_cmpR op_eq (pe_item_str (pv 0) pe_int (fun _ _ => rfl)) pe_str (nomark _))))) pe_non (pe_callTy call_int_str (by rfl) T.n_int (by decide +kernel) (pa_cons (pv 0) pa_nil)))))), ?_⟩
  obtain ⟨n, rfl, hn, q⟩ := h
  have hl := num_len hn
  have hS := S_len (numL n)
  walk_at "rd"
  refine ⟨by rw [hS]; exact Nat.le_of_lt (small1000 (by omega)), ?_⟩
  rw [hS]
  walk_at "rd"
  refine ifT (decide_eq_true (by omega)) ?_
  walk_at "rd"
  refine ifF (by
    show (!decide (((numL n).length : Int) ≤ 40)) = false
    rw [decide_eq_true (by omega)]; rfl) ?_
  walk_at "rd"
  intro D nD
  refine lc_it walk_str (fun i H' => Same H H' ∧ H' D = some (.lst ((List.replicate i true).map V.bl))) ⟨sNew nD, upd_same⟩ (fun _ _ _ _ => trivial) ?_ ?_
  · rintro i x H1 H' hi ⟨sm, hD⟩ ⟨rfl, c, hc, rfl⟩
    have hmem : c ∈ numL n := by
      have := List.mem_of_getElem? (Array.getElem?_toList .. ▸ hc : (S (numL n)).cps.toList[i]? = some c)
      exact this
    have hd := numL_digits n c hmem
    refine ⟨rfl, ?_⟩
    walk_at "rd"
    rw [decide_eq_true (dig_in hd.1 hd.2)]
    refine ⟨_, hD, ?_, sPut sm nD, ?_⟩
    · rw [List.length_map, List.length_replicate]
      have hi2 : i < (numL n).length := by simpa using hi
      exact small1000 (by omega)
    · rw [upd_same, List.replicate_succ', List.map_append]
      rfl
  · rintro H' ⟨sm, hD⟩
    refine ⟨D, _, rfl, SqL.of hD, ?_⟩
    have ea : (List.replicate (S (numL n)).cps.size true).all id = true := by
      rw [List.all_eq_true]
      intro b hb
      exact (List.mem_replicate.mp hb).2
    rw [ea]
    walk_at "rd"
    refine ⟨by rw [hS]; exact Nat.le_of_lt (small1000 (by omega)), ?_⟩
    rw [hS]
    walk_at "rd"
    have fin : tCB (fun (xs : List V) (H : Hp) (Q : VK) => ∃ a n, xs = [.str a] ∧ PySem.intText? a = some n ∧ a.length ≤ 640 ∧ Q (.int n) H) (tCons (tVar 0) tNil) [some (.str (S (numL n))), none] H' Q := by
      walk_at "rd"
      exact ⟨_, _, rfl, int_numS hn, by rw [hS]; omega, q _ sm⟩
    refine ite2 (fun c => ?_) (fun c => ?_)
    · have c1 := of_decide_eq_true c
      walk_at "rd"
      obtain ⟨a, ha⟩ : ∃ a, (numL n)[0]? = some a := ⟨(numL n)[0]'(by omega), List.getElem?_eq_getElem (by omega)⟩
      have ha2 : a ≠ 48 := by
        rcases num_lead n (by omega) with h | h
        · omega
        · intro e
          rw [ha, e] at h
          exact h rfl
      refine ⟨_, 0, a, rfl, rfl, by decide, by decide, by rw [hS]; omega, ?_, ?_⟩
      · show ((numL n).toArray)[0]? = some a
        rw [List.getElem?_toArray]
        exact ha
      · walk_at "rd"
        refine ifF (ne_sign ha2) ?_
        exact fin
    · exact fin
end
end EF
namespace EF
open PySem PySem.Spec PyProof.Rows L2
local macro_rules | `(tactic| walk_at "rd") => `(tactic| repeat (first
  | refine ⟨_, rfl, ?_⟩ | refine ⟨rfl, ?_⟩ | refine ⟨_, _, rfl, ?_⟩ | refine ⟨_, _, rfl, rfl, ?_⟩ | refine ⟨_, _, _, rfl, ?_⟩ | refine ⟨_, _, _, rfl, rfl, rfl, ?_⟩ | refine ⟨_, _, _, _, rfl, ?_⟩ | refine ⟨_, _, _, _, rfl, rfl, rfl, rfl, ?_⟩ | refine ⟨_, _, _, _, _, rfl, ?_⟩))
section
variable {P : Program} {w : World} {K : PySem.W.Frag} {mg : Str → Option Value} {base : Heap}
open SX TL
def wV (n : Nat) : V := .str (S (numL n))
def iV (n : Nat) : V := .int (n : Nat)
abbrev sp_integers_of (K : PySem.W.Frag) : Sp := sp1 fun x H Q => ∃ (a : Addr) (ns : List Nat), x = .ref a ∧ SqL K H a (ns.map wV) ∧ (∀ n ∈ ns, n ≤ 200) ∧ ns.length ≤ 100 ∧ ∀ q H', Same H H' → H q = none → H' q = some (.tup (ns.map iV)) → Q (.ref q) H'
theorem map_atF {α : Type} {f : α → V} {l : List α} {i : Nat} {x : V} (h : (l.map f)[i]? = some x) : ∃ z, l[i]? = some z ∧ x = f z := by
  rw [List.getElem?_map] at h
  cases e : l[i]? with
  | none => rw [e] at h; cases h
  | some z => rw [e] at h; exact ⟨z, rfl, (Option.some.inj h).symm⟩
theorem in_none (ns : List Nat) : inV .non (ns.map iV) = false := by
  unfold inV
  rw [List.any_map]
  induction ns with
  | nil => rfl
  | cons a r ih => rw [List.any_cons, ih]; rfl
theorem flat_iV (ns : List Nat) : (ns.map iV).all flatV = true := by
  rw [List.all_map]
  exact List.all_eq_true.mpr fun _ _ => rfl
abbrev N_integers_of : List Str := ["words", "found", "word"]
theorem sc_integers_of : FnScope N_integers_of ["words"] (defScope s_integers_of) := ⟨rfl, rfl, rfl, by decide +kernel, rfl, by decide +kernel, by decide +kernel⟩
theorem ok_integers_of (T : Tx K mg) : C8.Cal P w K mg base 2 "integers_of" (sp_integers_of K) [] := by
  have c_integer_of := ok_integer_of (P := P) (w := w) (K := K) (mg := mg) (base := base) T
  refine calD (k := 1) (N := N_integers_of) (ps := ["words"]) T.g_integers_of T.f_integers_of (fun _ _ _ _ _ _ us hl => match us, hl with | [_], _ => rfl) sc_integers_of len1 (fun cdv A outer s H vs Q E hr h => ?_)
  obtain ⟨x1, rfl, h⟩ := h
  refine ⟨_, (pss_cons (ps_setLc (i := 1) (own := [("word", 2)]) (g := gName 2) (tt := tYes) rfl sc_integers_of.nd rfl rfl (sw_true rfl rfl rfl (by decide +kernel)) (pi_list (pv 0)) (blkOk_by (own := [("word", 2)]) (N := N_integers_of) (sc := defScope s_integers_of) (by decide +kernel)) (fun _ _ _ _ _ => pg_name (i := 2) sc_integers_of.nd rfl (Or.inl rfl)) (fun _ _ _ _ _ => pts_nil) (fun _ _ _ _ _ => (C8.pe_c c_integer_of hr (by decide) (by rfl) (pa_cons (pv 2) pa_nil))))
    (pss_one (ps_ret (pe_ifExp (pt_cmpR op_in_seq pe_non (pv 1) (by rfl)) pe_non (pe_callTy call_tuple_of (by rfl) T.n_tuple (by decide +kernel) (pa_cons (pv 1) pa_nil)))))), ?_⟩
  obtain ⟨a, ns, rfl, hS, hb, hl, q⟩ := h
  walk_at "rd"
  refine ⟨⟨_, hS⟩, fun D nD => lc_list (K := K) (a := a) (xs := ns.map wV) (fun i H' => Same H H' ∧ H' D = some (.lst ((ns.take i).map iV))) ⟨sNew nD, upd_same⟩ (fun i H' _ h => h.1.seq hS) ?_ ?_⟩
  · rintro i x H' hi ⟨sm, hD⟩
    obtain ⟨n, hn, rfl⟩ := map_atF hi
    refine ⟨rfl, ?_⟩
    walk_at "rd"
    refine ⟨hb n (List.mem_of_getElem? hn), fun H2 sm2 => ?_⟩
    refine ⟨_, sm2 _ _ hD, by rw [List.length_map, List.length_take]; exact small1000 (by omega), sPut (sm.trans sm2) nD, ?_⟩
    rw [upd_same, take_snoc hn, List.map_append]
    rfl
  · rintro H' ⟨sm, hD⟩
    rw [List.length_map, List.take_length] at hD
    walk_at "rd"
    refine ⟨D, _, rfl, .inl (SqL.of hD), rfl, flat_iV ns, ?_⟩
    show ∃ k, V.bl (inV .non (ns.map iV)) = V.bl k ∧ _
    rw [in_none]
    walk_at "rd"
    refine ⟨D, _, rfl, .inl ⟨SqL.of hD, fun l nl => ?_⟩⟩
    exact q l _ (fun b o e => sNew nl _ _ (sm _ _ e)) (sm.free nl) upd_same
/-- a thing that is written: an int, or a text -/
def thV : Sum Nat (List Nat) → V
  | .inl n => .int (n : Nat)
  | .inr l => .str (S l)
def thL : Sum Nat (List Nat) → List Nat
  | .inl n => numL n
  | .inr l => l
def thOk : Sum Nat (List Nat) → Prop
  | .inl n => n ≤ 200
  | .inr l => l.length ≤ 100
theorem thLen {x : Sum Nat (List Nat)} (h : thOk x) : (thL x).length ≤ 100 := by
  cases x with
  | inl n => have := (num_len (show n ≤ 200 from h)).2; show (numL n).length ≤ 100; omega
  | inr l => exact h
theorem sum_le {l : List Nat} {m : Nat} (h : ∀ x ∈ l, x ≤ m) : l.sum ≤ l.length * m := by
  induction l with
  | nil => simp
  | cons a r ih =>
    have h1 := h a (List.mem_cons_self ..)
    have h2 := ih fun x hx => h x (List.mem_cons_of_mem _ hx)
    rw [List.sum_cons, List.length_cons, Nat.add_mul, Nat.one_mul]
    omega
theorem blank_S : (" " : Str) = S [32] := by decide +kernel
abbrev sp_blanks (K : PySem.W.Frag) : Sp := sp1 fun x H Q => ∃ (a : Addr) (ths : List (Sum Nat (List Nat))), x = .ref a ∧ SqL K H a (ths.map thV) ∧ ths.length ≤ 100 ∧ (∀ t ∈ ths, thOk t) ∧ ∀ H', Same H H' → Q (.str (S (joinL [32] (ths.map thL)))) H'
abbrev N_blanks : List Str := ["things", "thing"]
theorem sc_blanks : FnScope N_blanks ["things"] (defScope s_blanks) := ⟨rfl, rfl, rfl, by decide +kernel, rfl, by decide +kernel, by decide +kernel⟩
theorem ok_blanks (T : Tx K mg) : C8.Cal P w K mg base 1 "blanks" (sp_blanks K) [] := by
  refine calD (k := 0) (N := N_blanks) (ps := ["things"]) T.g_blanks T.f_blanks (fun _ _ _ _ _ _ us hl => match us, hl with | [_], _ => rfl) sc_blanks len1 (fun cdv A outer s H vs Q E hr h => ?_)
  obtain ⟨x1, rfl, h⟩ := h
  refine ⟨_, (pss_one (ps_ret (pe_join pe_str (pe_lc (own := [("thing", 1)]) (g := gName 1) (tt := tYes) rfl sc_blanks.nd (pi_list (pv 0)) (blkOk_by (own := [("thing", 1)]) (N := N_blanks) (sc := defScope s_blanks) (by decide +kernel)) (fun _ _ _ _ _ => pg_name (i := 1) sc_blanks.nd rfl (Or.inl rfl)) (fun _ _ _ _ _ => pts_nil) (fun _ _ _ _ _ => (pe_callTy (CallR.or call_str_int SkE.call_str_str) (by rfl) T.n_str (by decide +kernel) (pa_cons (pv 1) pa_nil))))))), ?_⟩
  obtain ⟨a, ths, rfl, hS, hl, hk, q⟩ := h
  walk_at "rd"
  refine ⟨⟨_, rfl⟩, ?_⟩
  walk_at "rd"
  refine ⟨⟨_, hS⟩, fun D nD => lc_list (K := K) (a := a) (xs := ths.map thV) (fun i H' => Same H H' ∧ H' D = some (.lst ((((ths.take i).map thL).map S).map V.str))) ⟨sNew nD, upd_same⟩ (fun i H' _ h => h.1.seq hS) ?_ ?_⟩
  · rintro i x H' hi ⟨sm, hD⟩
    obtain ⟨z, hz, rfl⟩ := map_atF hi
    have hz2 := hk z (List.mem_of_getElem? hz)
    refine ⟨rfl, ?_⟩
    have fin : ∃ acc, H' D = some (.lst acc) ∧ acc.length < sizeLine ∧ (Same H (upd H' D (.lst (acc ++ [.str (S (thL z))]))) ∧ (upd H' D (.lst (acc ++ [.str (S (thL z))]))) D = some (.lst ((((ths.take (i + 1)).map thL).map S).map V.str))) := by
      refine ⟨_, hD, by rw [List.length_map, List.length_map, List.length_map, List.length_take]; exact small1000 (by omega), sPut sm nD, ?_⟩
      rw [upd_same, take_snoc hz, List.map_append, List.map_append, List.map_append]
      rfl
    walk_at "rd"
    cases z with
    | inl n =>
      refine .inl ⟨_, rfl, log_small (show n ≤ 1000 from Nat.le_trans hz2 (by decide)), ?_⟩
      rw [num_S]
      exact fin
    | inr l => exact .inr ⟨_, rfl, fin⟩
  · rintro H' ⟨sm, hD⟩
    rw [List.length_map, List.take_length] at hD
    refine ⟨_, D, (ths.map thL).map S, rfl, rfl, .inl (SqL.of hD), ?_, ?_⟩
    · have h1 : (((ths.map thL).map S).map (·.length)).sum ≤ ths.length * 100 := by
        have h2 := sum_le (l := ((ths.map thL).map S).map (·.length)) (m := 100) fun x hx => by
          rw [List.map_map, List.map_map] at hx
          obtain ⟨z, hz, rfl⟩ := List.mem_map.mp hx
          show (S (thL z)).length ≤ 100
          rw [S_len]
          exact thLen (hk z hz)
        rwa [List.length_map, List.length_map, List.length_map] at h2
      rw [List.length_map, List.length_map, blank_S, S_len]
      rw [show ([32] : List Nat).length = 1 from rfl, Nat.mul_one]
      omega
    · rw [blank_S, join_S]
      exact q _ sm
abbrev sp_rows_of (K : PySem.W.Frag) : Sp := sp1 fun x H Q => ∃ ps : List (List Nat), x = .str (S (joinL [10] ps)) ∧ ps ≠ [] ∧ (∀ p ∈ ps, 10 ∉ p) ∧ (joinL [10] ps).length ≤ 10000 ∧ ∀ q H', Same H H' → H q = none → H' q = some (.lst ((ps.map S).map V.str)) → Q (.ref q) H'
theorem lf_S : ("\n" : Str) = S [10] := by decide +kernel
abbrev N_rows_of : List Str := ["text"]
theorem sc_rows_of : FnScope N_rows_of ["text"] (defScope s_rows_of) := ⟨rfl, rfl, rfl, by decide +kernel, rfl, by decide +kernel, by decide +kernel⟩
theorem ok_rows_of (T : Tx K mg) : C8.Cal P w K mg base 1 "rows_of" (sp_rows_of K) [] := by
  refine calD (k := 0) (N := N_rows_of) (ps := ["text"]) T.g_rows_of T.f_rows_of (fun _ _ _ _ _ _ us hl => match us, hl with | [_], _ => rfl) sc_rows_of len1 (fun cdv A outer s H vs Q E hr h => ?_)
  obtain ⟨x1, rfl, h⟩ := h
  refine ⟨_, (pss_cons (ps_if (pt_not (pt_val (pe_callB call_isS (by rfl) T.n_isinstance (by decide +kernel) (pa_cons (pv 0) (pa_cons (pe_bltn (v := .ty "str") (by rfl) T.n_str (by decide +kernel) rfl) pa_nil)))))
    (pss_one ps_never)
    pss_nil)
    (pss_one (ps_ret (pe_split (pv 0) pe_str)))), ?_⟩
  obtain ⟨ps, rfl, hne, hf, hl, q⟩ := h
  walk_at "rd"
  refine ⟨⟨_, rfl⟩, ?_⟩
  walk_at "rd"
  refine ⟨by rw [S_len]; exact Nat.le_trans (show _ ≤ 16777216 by omega) (Nat.le_of_eq sizeLine_eq.symm), fun p np => ?_⟩
  rw [lf_S, split_S (by simp) (by decide), SX.spl_join hne hf]
  exact q p _ (sNew np) np upd_same
abbrev sp_head_of (K : PySem.W.Frag) : Sp := sp3 fun x y z H Q => ∃ (w : List Nat) (ns : List Nat), x = .str (S (joinL [32] (w :: ns.map numL))) ∧ y = .str (S w) ∧ z = .int (ns.length : Nat) ∧ 32 ∉ w ∧ w.length ≤ 100 ∧ (∀ n ∈ ns, n ≤ 200) ∧ ns.length ≤ 100 ∧ (joinL [32] (w :: ns.map numL)).length ≤ 10000 ∧
  ∀ q H', Same H H' → H q = none → H' q = some (.tup (ns.map iV)) → Q (.ref q) H'
theorem cut_from (xs : List V) : cutV xs (some 1) none = xs.drop 1 := by
  unfold cutV
  rw [show HT.sIx xs.length 0 (some 1) = min 1 xs.length from HT.sIx_nat xs.length 0 1, HT.sIx_none]
  cases xs with
  | nil => rfl
  | cons x r =>
    rw [show min 1 (x :: r).length = 1 by rw [List.length_cons]; omega]
    show (r.take ((x :: r).length - 1)) = r
    rw [List.length_cons, Nat.add_sub_cancel, List.take_length]
abbrev N_head_of : List Str := ["row", "word", "many", "words"]
theorem sc_head_of : FnScope N_head_of ["row", "word", "many"] (defScope s_head_of) := ⟨rfl, rfl, rfl, by decide +kernel, rfl, by decide +kernel, by decide +kernel⟩
theorem ok_head_of (T : Tx K mg) : C8.Cal P w K mg base 3 "head_of" (sp_head_of K) [] := by
  have c_integers_of := ok_integers_of (P := P) (w := w) (K := K) (mg := mg) (base := base) T
  refine calD (k := 2) (N := N_head_of) (ps := ["row", "word", "many"]) T.g_head_of T.f_head_of (fun _ _ _ _ _ _ us hl => match us, hl with | [_, _, _], _ => rfl) sc_head_of len3 (fun cdv A outer s H vs Q E hr h => ?_)
  obtain ⟨x1, x2, x3, rfl, h⟩ := h
  refine ⟨_, (pss_cons (ps_set (i := 3) sc_head_of.nd rfl (Or.inl rfl) (pe_split (pv 0) pe_str))
    (pss_one (ps_ret (pe_ifExp (PW.pt (pw_and (pt_cmpR op_eq (pe_ix (ix_listK (K := K) rfl) (pv 3) pe_int (fun _ _ => rfl)) (pv 1) (nomark _)) (pw_and1 (pt_cmpR op_eq (pe_callB call_len_seq (by rfl) T.n_len PySem.boot_len (pa_cons (pv 3) pa_nil)) (pe_op op_add (pv 2) pe_int) (nomark _))))) (C8.pe_c c_integers_of hr (by decide) (by rfl) (pa_cons (pe_slice sl_list (pv 3) (po_some pe_int) po_none) pa_nil)) pe_non)))), ?_⟩
  obtain ⟨wd, ns, rfl, rfl, rfl, hw, hwl, hb, hl, hlen, q⟩ := h
  have hne : (wd :: ns.map numL) ≠ [] := List.cons_ne_nil _ _
  have hf : ∀ p ∈ (wd :: ns.map numL), 32 ∉ p := fun p hp => by
    rcases List.mem_cons.mp hp with rfl | hp
    · exact hw
    · obtain ⟨n, _, rfl⟩ := List.mem_map.mp hp
      exact numL_free (.inl (by decide))
  walk_at "rd"
  refine ⟨⟨_, rfl⟩, ?_⟩
  walk_at "rd"
  refine ⟨by rw [S_len]; exact Nat.le_trans (show _ ≤ 16777216 by omega) (Nat.le_of_eq sizeLine_eq.symm), fun p np => ?_⟩
  rw [blank_S, split_S (by simp) (by decide), SX.spl_join hne hf]
  have e1 : (((wd :: ns.map numL).map S).map V.str) = .str (S wd) :: ns.map wV := by
    rw [List.map_cons, List.map_cons, List.map_map, List.map_map]
    rfl
  rw [e1]
  have hp : (upd H p (.lst (.str (S wd) :: ns.map wV))) p = _ := upd_same
  walk_at "rd"
  refine ⟨p, _, 0, _, rfl, rfl, SqL.of hp, atI_nat (j := 0) rfl, ?_⟩
  walk_at "rd"
  refine ifT (decide_eq_true rfl) ?_
  walk_at "rd"
  refine ⟨p, _, rfl, .inl (SqL.of hp), ?_⟩
  walk_at "rd"
  have e2 : V.int (((V.str (S wd) :: ns.map wV).length : Nat) : Int) = V.int (((ns.length : Nat) : Int) + 1) := by
    rw [List.length_cons, List.length_map]
    rfl
  refine ifT (decide_eq_true e2) ?_
  walk_at "rd"
  refine ⟨p, _, rfl, SqL.of hp, fun p2 np2 => ?_⟩
  rw [cut_from]
  refine ⟨_, rfl, p2, ns, rfl, SqL.of upd_same, hb, hl, fun q2 H2 sm nq h2 => ?_⟩
  exact q q2 H2 (fun b o e => sm _ _ (sNew np2 _ _ (sNew np _ _ e))) ((sNew np).free ((sNew np2).free nq)) h2
end
end EF
namespace EF
open PySem PySem.Spec PyProof.Rows L2
local macro_rules | `(tactic| walk_at "rd") => `(tactic| repeat (first
  | refine ⟨_, rfl, ?_⟩ | refine ⟨rfl, ?_⟩ | refine ⟨_, _, rfl, ?_⟩ | refine ⟨_, _, rfl, rfl, ?_⟩ | refine ⟨_, _, _, rfl, ?_⟩ | refine ⟨_, _, _, rfl, rfl, rfl, ?_⟩ | refine ⟨_, _, _, _, rfl, ?_⟩ | refine ⟨_, _, _, _, rfl, rfl, rfl, rfl, ?_⟩ | refine ⟨_, _, _, _, _, rfl, ?_⟩))
section
variable {P : Program} {w : World} {K : PySem.W.Frag} {mg : Str → Option Value} {base : Heap}
open SX TL
theorem pg_tupK {X : Cx} {es : List Expr} {k n : Nat} {pos : Pos} {t : TGs} (e : X.K = K) (hc : X.calm = true) (h : PGs X es t) (hn : (assignEach es X.env).length = n) (hst : (assignEach es X.env).findIdx? (·.1) = none) : L2.PG X (.Tuple es k pos) (gTup K n t) := by
  subst e
  exact pg_tup hc h hn hst
def clW : List Nat := [99, 108, 117, 115, 116, 101, 114]
def dcW : List Nat := [100, 101, 97, 100]
theorem cl_S : ("cluster" : Str) = S clW := by decide +kernel
theorem dc_S : ("dead" : Str) = S dcW := by decide +kernel
theorem mi_S : ("-" : Str) = S [45] := by decide +kernel
/-- the dead by the live ones -/
def dN (n : Nat) (L : List Int) : List Nat := (List.range n).filter fun i => !decide (((i : Nat) : Int) ∈ L)
theorem dN_oth (n : Nat) (L : List Int) : oth n L = (dN n L).map fun i : Nat => (i : Int) := by
  unfold oth dN rng
  rw [List.filter_map]
  rfl
theorem dN_lt {n : Nat} {L : List Int} {i : Nat} (h : i ∈ dN n L) : i < n := List.mem_range.mp (List.mem_filter.mp h).1
theorem dN_len {n : Nat} (L : List Int) : (dN n L).length ≤ n := by
  have h := List.length_filter_le (fun i : Nat => !decide (((i : Nat) : Int) ∈ L)) (List.range n)
  rw [List.length_range] at h
  exact h
theorem dN_srt (n : Nat) (L : List Int) : (dN n L).Pairwise (· < ·) := (List.pairwise_lt_range (n := n)).filter _
def dW (ds : List Nat) : List (List Nat) := if ds = [] then [[45]] else ds.map numL
def row1 (n f r t : Nat) : List Nat := joinL [32] (clW :: [n, f, r, t].map numL)
def row2 (ds : List Nat) : List Nat := joinL [32] (dcW :: dW ds)
def txtL (n f r t : Nat) (ds : List Nat) : List Nat := joinL [10] [row1 n f r t, row2 ds]
theorem join_len {s : Nat} {m : Nat} : ∀ {ps : List (List Nat)}, (∀ p ∈ ps, p.length ≤ m) → (joinL [s] ps).length ≤ ps.length * (m + 1)
  | [], _ => Nat.zero_le _
  | [p], h => by
    have := h p (List.mem_cons_self ..)
    show p.length ≤ 1 * (m + 1)
    omega
  | p :: q :: r, h => by
    have h1 := h p (List.mem_cons_self ..)
    have ih := join_len (s := s) (m := m) (ps := q :: r) fun x hx => h x (List.mem_cons_of_mem _ hx)
    show (p ++ ([s] ++ joinL [s] (q :: r))).length ≤ ((q :: r).length + 1) * (m + 1)
    rw [List.length_append, List.length_append, Nat.add_mul, Nat.one_mul]
    have e : ([s] : List Nat).length = 1 := rfl
    rw [e]
    generalize (q :: r).length * (m + 1) = z at *
    omega
theorem mem_join {s x : Nat} : ∀ {ps : List (List Nat)}, x ∈ joinL [s] ps → x = s ∨ ∃ p ∈ ps, x ∈ p
  | [], h => by cases h
  | [p], h => .inr ⟨p, List.mem_cons_self .., h⟩
  | p :: q :: r, h => by
    have h : x ∈ p ++ ([s] ++ joinL [s] (q :: r)) := h
    rcases List.mem_append.mp h with h | h
    · exact .inr ⟨p, List.mem_cons_self .., h⟩
    · rcases List.mem_append.mp h with h | h
      · exact .inl (List.mem_singleton.mp h)
      · rcases mem_join h with h | ⟨y, hy, h⟩
        · exact .inl h
        · exact .inr ⟨y, List.mem_cons_of_mem _ hy, h⟩
section
variable {n f r t : Nat} {ds : List Nat}
theorem dW_len (hd : ∀ d ∈ ds, d ≤ 200) : ∀ p ∈ dW ds, p.length ≤ 3 := by
  intro p hp
  unfold dW at hp
  split at hp
  · rw [List.mem_singleton.mp hp]; decide
  · obtain ⟨d, h1, rfl⟩ := List.mem_map.mp hp
    exact (num_len (hd d h1)).2
theorem dW_many : (dW ds).length ≤ ds.length + 1 := by
  unfold dW
  split
  · simp
  · rw [List.length_map]; omega
theorem dW_sign {x : Nat} (hx : x < 45) : ∀ p ∈ dW ds, x ∉ p := by
  intro p hp
  unfold dW at hp
  split at hp
  · rw [List.mem_singleton.mp hp]
    intro e
    have := List.mem_singleton.mp e
    omega
  · obtain ⟨d, h1, rfl⟩ := List.mem_map.mp hp
    exact numL_free (.inl (by omega))
theorem row1_free : 10 ∉ row1 n f r t := by
  intro h
  rcases mem_join h with h | ⟨p, hp, h⟩
  · cases h
  · rcases List.mem_cons.mp hp with rfl | hp
    · revert h; decide
    · obtain ⟨d, _, rfl⟩ := List.mem_map.mp hp
      exact numL_free (.inl (by decide)) h
theorem row2_free : 10 ∉ row2 ds := by
  intro h
  rcases mem_join h with h | ⟨p, hp, h⟩
  · cases h
  · rcases List.mem_cons.mp hp with rfl | hp
    · revert h; decide
    · exact dW_sign (by decide) p hp h
theorem row1_len (hn : n ≤ 200) (hf : f ≤ 200) (hr : r ≤ 200) (ht : t ≤ 200) : (row1 n f r t).length ≤ 50 := by
  have h := join_len (s := 32) (m := 7) (ps := clW :: [n, f, r, t].map numL) fun p hp => by
    rcases List.mem_cons.mp hp with rfl | hp
    · decide
    · obtain ⟨d, hd, rfl⟩ := List.mem_map.mp hp
      have hd2 : d ≤ 200 := by
        simp only [List.mem_cons, List.not_mem_nil, or_false] at hd
        rcases hd with rfl | rfl | rfl | rfl <;> assumption
      have := (num_len hd2).2
      omega
  exact Nat.le_trans h (by show 5 * 8 ≤ 50; decide)
theorem row2_len (hd : ∀ d ∈ ds, d ≤ 200) (hl : ds.length ≤ 6) : (row2 ds).length ≤ 50 := by
  have h := join_len (s := 32) (m := 4) (ps := dcW :: dW ds) fun p hp => by
    rcases List.mem_cons.mp hp with rfl | hp
    · decide
    · have := dW_len hd p hp
      omega
  have h2 := dW_many (ds := ds)
  rw [List.length_cons] at h
  show (joinL [32] (dcW :: dW ds)).length ≤ 50
  omega
end
abbrev sp_show_cluster (K : PySem.W.Frag) : Sp := sp1 fun x H Q => ∃ (k : CA) (n f r t : Nat) (g : List Int) (dn : List (Int × Int)), x = .ref k.c ∧ Clu K H k n f r t g dn ∧ Good n f r t ∧ ∀ H', Same H H' → Q (.str (S (txtL n f r t (dN n (oth n g))))) H'
abbrev N_show_cluster : List Str := ["cluster", "live", "dead", "numbers", "server"]
theorem sc_show_cluster : FnScope N_show_cluster ["cluster"] (defScope s_show_cluster) := ⟨rfl, rfl, rfl, by decide +kernel, rfl, by decide +kernel, by decide +kernel⟩
theorem ok_show_cluster (T : Tx K mg) : C8.Cal P w K mg base 2 "show_cluster" (sp_show_cluster K) [] := by
  have c_blanks := ok_blanks (P := P) (w := w) (K := K) (mg := mg) (base := base) T
  have m_live := ok_C_live (P := P) (w := w) (K := K) (mg := mg) (base := base) T
  refine calD (k := 1) (N := N_show_cluster) (ps := ["cluster"]) T.g_show_cluster T.f_show_cluster (fun _ _ _ _ _ _ us hl => match us, hl with | [_], _ => rfl) sc_show_cluster len1 (fun cdv A outer s H vs Q E hr h => ?_)
  obtain ⟨x1, rfl, h⟩ := h
  refine ⟨_, (pss_cons (ps_set (i := 1) sc_show_cluster.nd rfl (Or.inr rfl) (C8.pe_mt0 m_live hr (by decide) (pv 0)))
    (pss_cons (ps_setLc (i := 2) (own := [("server", 4)]) (g := gName 4) rfl sc_show_cluster.nd rfl rfl (sw_true rfl rfl rfl (by decide +kernel)) (pi_range1 (by rfl) T.n_range (pa_cons (pe_fldK (K := K) rfl (pv 0) rfl) pa_nil)) (blkOk_by (own := [("server", 4)]) (N := N_show_cluster) (sc := defScope s_show_cluster) (by decide +kernel)) (fun _ _ _ _ _ => pg_name (i := 4) sc_show_cluster.nd rfl (Or.inl rfl)) (fun _ _ _ _ _ => pts_one (pt_cmpR (op_niK (K := K) rfl) (pv 4) (pv 1) (by rfl))) (fun _ _ _ _ _ => (pv 4)))
    (pss_cons (ps_set (i := 3) sc_show_cluster.nd rfl (Or.inl rfl) (pe_lst (pa_cons (pe_fldK (K := K) rfl (pv 0) rfl) (pa_cons (pe_fldK (K := K) rfl (pv 0) rfl) (pa_cons (pe_fldK (K := K) rfl (pv 0) rfl) (pa_cons (pe_fldK (K := K) rfl (pv 0) rfl) pa_nil))))))
    (pss_one (ps_ret (pe_op op_add_str (pe_op op_add_str (C8.pe_c c_blanks hr (by decide) (by rfl) (pa_cons (pe_op op_cat (pe_lst (pa_cons pe_str pa_nil)) (pv 3)) pa_nil)) pe_str) (C8.pe_c c_blanks hr (by decide) (by rfl) (pa_cons (pe_op op_cat (pe_lst (pa_cons pe_str pa_nil)) (pe_ifExp (pt_cmpR (op_neD hr.units) (pv 2) (pe_lst pa_nil) (nomark _)) (pv 2) (pe_lst (pa_cons pe_str pa_nil)))) pa_nil)))))))), ?_⟩
  obtain ⟨k, n, f, r, t, g, dn, rfl, hC, hG, q⟩ := h
  obtain ⟨dx, ts, h1, h2, h3, h4⟩ := id hC
  have g6 := hG.gt.n6
  have g2 := hG.gt.n2
  have fn := hG.fn
  have rn := hG.rn
  have ht := hG.gt.all.2.2.2
  generalize hL : oth n g = L at *
  have hds : ∀ d ∈ dN n L, d ≤ 200 := fun d hd => by have := dN_lt hd; omega
  have hdl := dN_len (n := n) L
  have l1 := row1_len (n := n) (f := f) (r := r) (t := t) (by omega) (by omega) (by omega) (by omega)
  have l2 := row2_len hds (by omega)
  walk_at "rd"
  refine ⟨_, _, _, rfl, h1, fl_no (by decide +kernel), ?_⟩
  walk_at "rd"
  refine ⟨k, n, f, r, t, g, dn, rfl, hC, g6, fun a H1 sm1 na ha => ?_⟩
  rw [hL] at ha
  have c1 := sm1 _ _ h1
  walk_at "rd"
  refine ⟨_, _, _, _, _, rfl, c1, T.cl, T.a_n, fl_n, ?_⟩
  walk_at "rd"
  refine ⟨by omega, by omega, fun D nD => lc_range (lo := 0) (n := ((n : Int)).toNat) (fun i H' => Same H1 H' ∧ LI H' D (((rng n).take i).filter fun s => !decide (s ∈ L))) ⟨sNew nD, upd_same⟩ ?_ ?_⟩
  · rintro i H' hi ⟨sm, hD⟩
    have hi2 : i < n := by omega
    refine ⟨rfl, ?_⟩
    rw [Int.zero_add]
    have ef := filt_snoc (p := fun s => !decide (s ∈ L)) (rng_at hi2)
    refine ⟨_, rfl, _, rfl, _, _, L, rfl, rfl, .inr (SqT.of (sm _ _ ha)), _, rfl, ite2 (fun c => ?_) (fun c => ?_)⟩
    · rw [if_pos c] at ef
      refine ⟨_, rfl, _, hD, filt_len _ (by omega), sPut sm nD, ?_⟩
      show upd H' D _ D = _
      rw [upd_same, ef, List.map_append]
      rfl
    · rw [if_neg c, List.append_nil] at ef
      refine ⟨sm, ?_⟩
      show H' D = _
      rw [ef]
      exact hD
  · rintro H2 ⟨sm2, hD⟩
    have e : (rng n).take ((n : Int)).toNat = rng n := List.take_of_length_le (by rw [rng_len]; omega)
    rw [e] at hD
    have hD2 : LI H2 D (oth n L) := hD
    rw [dN_oth] at hD2
    have hDn : H2 D = some (.lst ((dN n L).map iV)) := by
      have e2 : ((dN n L).map fun i : Nat => (i : Int)).map V.int = (dN n L).map iV := by rw [List.map_map]; rfl
      rw [← e2]; exact hD2
    have c2 := sm2 _ _ c1
    walk_at "rd"
    refine ⟨_, _, _, _, _, rfl, c2, T.cl, T.a_n, fl_n, ?_⟩
    refine ⟨_, rfl, _, _, _, _, _, rfl, c2, T.cl, T.a_failures, fl_failures, ?_⟩
    refine ⟨_, rfl, _, _, _, _, _, rfl, c2, T.cl, T.a_factor, fl_factor, ?_⟩
    refine ⟨_, rfl, _, _, _, _, _, rfl, c2, T.cl, T.a_count, fl_count, ?_⟩
    refine ⟨by show 4 ≤ sizeLine; decide, fun nu nnu => ?_⟩
    have s3 := sNew (o := .lst [.int n, .int f, .int r, .int t]) nnu
    walk_at "rd"
    refine ⟨by show 1 ≤ sizeLine; decide, fun b nb => ?_⟩
    have s4 := sNew (o := .lst [.str "cluster"]) nb
    walk_at "rd"
    refine ⟨_, _, _, _, rfl, rfl, upd_same, s4 _ _ upd_same, by show 1 + 4 ≤ sizeLine; decide, fun c nc => ?_⟩
    have s5 := sNew (o := .lst ([.str "cluster"] ++ [.int n, .int f, .int r, .int t])) nc
    refine ⟨_, rfl, c, .inr clW :: [n, f, r, t].map .inl, rfl, SqL.of (by rw [upd_same, cl_S]; rfl), by show 5 ≤ 100; decide, fun x hx => ?_, fun H5 sm5 => ?_⟩
    · simp only [List.map_cons, List.map_nil, List.mem_cons, List.not_mem_nil, or_false] at hx
      rcases hx with rfl | rfl | rfl | rfl | rfl
      · show clW.length ≤ 100; decide
      · show n ≤ 200; omega
      · show f ≤ 200; omega
      · show r ≤ 200; omega
      · show t ≤ 200; omega
    have er1 : joinL [32] ((.inr clW :: [n, f, r, t].map .inl).map thL) = row1 n f r t := rfl
    rw [er1]
    have smD : ∀ b o, H2 b = some o → H5 b = some o := fun b o e => sm5 _ _ (s5 _ _ (s4 _ _ (s3 _ _ e)))
    have hD5 := smD _ _ hDn
    walk_at "rd"
    refine ⟨by rw [S_len, lf_S, S_len]; exact Nat.le_of_lt (small1000 (by show (row1 n f r t).length + 1 ≤ 1000; omega)), by show 1 ≤ sizeLine; decide, fun b6 nb6 => ?_⟩
    have s6 := sNew (o := .lst [.str "dead"]) nb6
    have fin : ∀ (H7 : Hp) (z : Addr) (ys : List V), Same (upd H5 b6 (.lst [.str "dead"])) H7 → H7 z = some (.lst ys) → [V.str "dead"] ++ ys = (.inr dcW :: (if dN n L = [] then [.inr [45]] else (dN n L).map .inl)).map thV →
        ∀ σ : L2.St, rCat (.ref b6) (.ref z) H7 fun x H8 => tNil σ H8 fun xs H9 => (sp_blanks K) (x :: xs ++ []) H9 (fun y H10 => ∃ i j, V.str (S (row1 n f r t) ++ ("\n" : Str)) = .str i ∧ y = .str j ∧ i.length + j.length ≤ sizeLine ∧ Q (.str (i ++ j)) H10) C8.E0 := by
      intro H7 z ys sm7 hz he σ
      refine ⟨_, _, _, _, rfl, rfl, sm7 _ _ upd_same, hz, ?_, fun c8 nc8 => ?_⟩
      · have hlen := congrArg List.length he
        rw [List.length_append, List.length_map] at hlen
        rw [hlen]
        refine Nat.le_of_lt (small1000 ?_)
        rw [List.length_cons]
        split
        · decide
        · rw [List.length_map]; omega
      refine ⟨_, rfl, c8, _, rfl, SqL.of (by rw [upd_same, he]), ?_, fun x hx => ?_, fun H9 sm9 => ?_⟩
      · rw [List.length_cons]
        split
        · decide
        · rw [List.length_map]; omega
      · rcases List.mem_cons.mp hx with rfl | hx
        · show dcW.length ≤ 100; decide
        · split at hx
          · rw [List.mem_singleton.mp hx]; show ([45] : List Nat).length ≤ 100; decide
          · obtain ⟨d, hd, rfl⟩ := List.mem_map.mp hx
            exact hds d hd
      have er2 : joinL [32] ((.inr dcW :: (if dN n L = [] then [.inr [45]] else (dN n L).map .inl)).map thL) = row2 (dN n L) := by
        unfold row2 dW
        rw [List.map_cons]
        split
        · rfl
        · rw [List.map_map]; rfl
      rw [er2]
      rw [lf_S, S_cat]
      refine ⟨_, _, rfl, rfl, by rw [S_len, S_len, List.length_append]; exact Nat.le_of_lt (small1000 (by show (row1 n f r t).length + 1 + (row2 (dN n L)).length ≤ 1000; omega)), ?_⟩
      rw [S_cat]
      have ex : row1 n f r t ++ [10] ++ row2 (dN n L) = txtL n f r t (dN n L) := by
        show _ = row1 n f r t ++ ([10] ++ row2 (dN n L))
        rw [List.append_assoc]
      rw [ex]
      exact q _ fun b o e => sm9 _ _ (sNew nc8 _ _ (sm7 _ _ (s6 _ _ (smD _ _ (sm2 _ _ (sm1 _ _ e))))))
    walk_at "rd"
    refine ⟨Nat.zero_le _, fun b7 nb7 => ?_⟩
    have s7 := sNew (o := .lst []) nb7
    have hD7 := s7 _ _ (s6 _ _ hD5)
    refine ⟨.list ((dN n L).map fun i => .int (i : Nat)), .list [], .lst (SqL.of hD7) ?_, .lst (SqL.of upd_same) .nil, (shp_list (k := 0) fun d hd => ?_).ok (by decide), shp_nil.ok (by decide), ?_⟩
    · have e3 : (dN n L).map iV = ((dN n L).map fun i : Nat => (i : Int)).map V.int := by rw [List.map_map]; rfl
      have e4 : ((dN n L).map fun i : Nat => PyData.int (i : Nat)) = ((dN n L).map fun i : Nat => (i : Int)).map PyData.int := by rw [List.map_map]; rfl
      rw [e3, e4]
      exact dp_ints _
    · obtain ⟨i, _, rfl⟩ := List.mem_map.mp hd
      exact shp_int 0 _
    refine ⟨_, rfl, ?_⟩
    have e5 : (PyData.list ((dN n L).map fun i => .int (i : Nat))).eqv (.list []) = decide (dN n L = []) := by
      cases dN n L <;> rfl
    rw [e5]
    refine ite2 (fun c => ?_) (fun c => ?_)
    · have c0 : ¬ dN n L = [] := by
        intro e
        rw [e] at c
        exact Bool.noConfusion c
      rw [if_neg c0] at fin
      exact ⟨_, rfl, fin _ D _ s7 hD7 (by rw [List.map_cons, List.map_map, dc_S]; rfl) _⟩
    · have c0 : dN n L = [] := by
        by_cases e : dN n L = []
        · exact e
        · rw [decide_eq_false e] at c
          exact absurd rfl c
      rw [if_pos c0] at fin
      refine ⟨by show 1 ≤ sizeLine; decide, fun b8 nb8 => ?_⟩
      exact fin _ b8 _ (s7.trans (sNew nb8)) upd_same (by rw [dc_S, mi_S]; rfl) _
end
end EF
namespace EF
open PySem PySem.Spec PyProof.Rows L2
local macro_rules | `(tactic| walk_at "rd") => `(tactic| repeat (first
  | refine ⟨_, rfl, ?_⟩ | refine ⟨rfl, ?_⟩ | refine ⟨_, _, rfl, ?_⟩ | refine ⟨_, _, rfl, rfl, ?_⟩ | refine ⟨_, _, _, rfl, ?_⟩ | refine ⟨_, _, _, rfl, rfl, rfl, ?_⟩ | refine ⟨_, _, _, _, rfl, ?_⟩ | refine ⟨_, _, _, _, rfl, rfl, rfl, rfl, ?_⟩ | refine ⟨_, _, _, _, _, rfl, ?_⟩))
section
variable {P : Program} {w : World} {K : PySem.W.Frag} {mg : Str → Option Value} {base : Heap}
open SX TL
theorem sign_ok {l : List Nat} (h : ∀ x ∈ l, x < 128) : (PyData.str (S l)).canLay0 = true := by
  show (S l).cps.all (fun c => decide (c < 0x110000)) = true
  rw [Array.all_eq_true_iff_forall_mem]
  intro x hx
  have hx2 : x ∈ l := by
    have := Array.mem_toList_iff.mpr hx
    exact this
  exact decide_eq_true (Nat.lt_trans (h x hx2) (by decide))
theorem dW_free {ds : List Nat} : ∀ p ∈ dcW :: dW ds, 32 ∉ p := by
  intro p hp
  rcases List.mem_cons.mp hp with rfl | hp
  · decide
  · exact dW_sign (by decide) p hp
theorem dW_num {ds : List Nat} (h : ds ≠ []) : dW ds = ds.map numL := by
  unfold dW
  rw [if_neg h]
theorem dW_ok {ds : List Nat} : ∀ p ∈ dW ds, ∀ x ∈ p, x < 128 := by
  intro p hp x hx
  unfold dW at hp
  split at hp
  · rw [List.mem_singleton.mp hp] at hx
    rw [List.mem_singleton.mp hx]
    decide
  · obtain ⟨d, _, rfl⟩ := List.mem_map.mp hp
    have := numL_digits d x hx
    omega
theorem dp_strs {K : PySem.W.Frag} {H : Hp} : ∀ ps : List (List Nat), DpAll K H ((ps.map S).map V.str) ((ps.map S).map PyData.str)
  | [] => .nil
  | p :: ps => .cons (.str _) (dp_strs ps)
theorem dash_eq {ds : List Nat} : (PyData.list (((dW ds).map S).map PyData.str)).eqv (.list [.str (S [45])]) = decide (ds = []) := by
  cases ds with
  | nil => rfl
  | cons d r =>
    rw [decide_eq_false (by simp)]
    rw [dW_num (by simp)]
    show ((S (numL d) == S [45]) && _) = false
    have h : (S (numL d) == S [45]) = false := by
      apply beq_eq_false_iff_ne.mpr
      intro e
      have e2 : (S (numL d)).cps.toList = (S [45]).cps.toList := by rw [e]
      have e3 : numL d = [45] := e2
      have := numL_digits d 45 (by rw [e3]; simp)
      omega
    rw [h]
    rfl
theorem walk_zipT {K : PySem.W.Frag} {a b : Addr} {xs ys : List V} {n : Nat} (hn : n = min xs.length ys.length) : Walk (RZ.ItzT K a b) n (fun H => SqT K H a xs ∧ SqT K H b ys) (YPair (fun i => xs[i]?) (fun i => ys[i]?)) := by
  subst hn
  refine ⟨fun i _ hi q => ?_, fun _ q => ⟨xs, ys, q.1, q.2, by omega⟩, fun i H v H' _ q y => ?_⟩
  · have h1 : i < xs.length := by omega
    have h2 : i < ys.length := by omega
    exact ⟨xs, ys, xs[i], ys[i], q.1, q.2, by simp [h1], by simp [h2]⟩
  · obtain ⟨T, x, z, h1, h2, h3, h4, h5⟩ := y
    exact ⟨T, x, z, h1, h2, h3, h4 xs q.1, h5 ys q.2⟩
theorem all_rep (i : Nat) : (List.replicate i true).all id = true := by
  rw [List.all_eq_true]
  intro b hb
  exact (List.mem_replicate.mp hb).2
theorem rep_put {H H' : Hp} {D : Addr} {i : Nat} (nD : H D = none) (sm : Same H H') : Same H (upd H' D (.lst (((List.replicate i true).map V.bl) ++ [.bl true]))) ∧ (upd H' D (.lst (((List.replicate i true).map V.bl) ++ [.bl true]))) D = some (.lst ((List.replicate (i + 1) true).map V.bl)) := by
  refine ⟨sPut sm nD, ?_⟩
  rw [upd_same, List.replicate_succ', List.map_append]
  rfl
abbrev sp_dead_of (K : PySem.W.Frag) : Sp := sp2 fun x y H Q => ∃ (k : CA) (n f r t : Nat) (g : List Int) (dn : List (Int × Int)) (ds : List Nat), x = .ref k.c ∧ y = .str (S (row2 ds)) ∧ Clu K H k n f r t g dn ∧ ds.Pairwise (· < ·) ∧ (∀ d ∈ ds, d < n) ∧ ds.length ≤ f ∧ n ≤ 6 ∧ f ≤ 6 ∧ ∀ q H', Same H H' → H q = none → H' q = some (.tup (ds.map iV)) → Q (.ref q) H'
abbrev N_dead_of : List Str := ["cluster", "row", "words", "dead", "one", "other", "server"]
theorem sc_dead_of : FnScope N_dead_of ["cluster", "row"] (defScope s_dead_of) := ⟨rfl, rfl, rfl, by decide +kernel, rfl, by decide +kernel, by decide +kernel⟩
theorem ok_dead_of (T : Tx K mg) : C8.Cal P w K mg base 3 "dead_of" (sp_dead_of K) [] := by
  have c_integers_of := ok_integers_of (P := P) (w := w) (K := K) (mg := mg) (base := base) T
  refine calD (k := 2) (N := N_dead_of) (ps := ["cluster", "row"]) T.g_dead_of T.f_dead_of (fun _ _ _ _ _ _ us hl => match us, hl with | [_, _], _ => rfl) sc_dead_of len2 (fun cdv A outer s H vs Q E hr h => ?_)
  obtain ⟨x1, x2, rfl, h⟩ := h
  refine ⟨_, (pss_cons (ps_set (i := 2) sc_dead_of.nd rfl (Or.inl rfl) (pe_split (pv 1) pe_str))
    (pss_cons (ps_if (PW.pt (pw_or (pt_cmpR op_ne (pe_ix (ix_listK (K := K) rfl) (pv 2) pe_int (fun _ _ => rfl)) pe_str (nomark _)) (pw_or1 (pt_cmpR op_lt (pe_callB call_len_seq (by rfl) T.n_len PySem.boot_len (pa_cons (pv 2) pa_nil)) pe_int (nomark _)))))
    (pss_one (ps_ret pe_non))
    pss_nil)
    (pss_cons (ps_if (pt_cmpR (op_eqD hr.units) (pe_slice sl_list (pv 2) (po_some pe_int) po_none) (pe_lst (pa_cons pe_str pa_nil)) (nomark _))
    (pss_one (ps_ret (pe_tup pa_nil)))
    pss_nil)
    (pss_cons (ps_set (i := 3) sc_dead_of.nd rfl (Or.inl rfl) (C8.pe_c c_integers_of hr (by decide) (by rfl) (pa_cons (pe_slice sl_list (pv 2) (po_some pe_int) po_none) pa_nil)))
    (pss_cons (ps_if (PW.pt (pw_or (pt_cmpR op_isN (pv 3) pe_non (nomark _)) (pw_or (pt_cmpR op_gt (pe_callB call_len_seq (by rfl) T.n_len PySem.boot_len (pa_cons (pv 3) pa_nil)) (pe_fldK (K := K) rfl (pv 0) rfl) (nomark _)) (pw_or1 (pt_not (pt_val (pe_callB (cr_all rfl) (by rfl) T.n_all (by decide +kernel) (pa_cons (pe_lc (own := [("server", 6)]) (g := gName 6) (tt := tYes) rfl sc_dead_of.nd (pi_tup (pv 3)) (blkOk_by (own := [("server", 6)]) (N := N_dead_of) (sc := defScope s_dead_of) (by decide +kernel)) (fun _ _ _ _ _ => pg_name (i := 6) sc_dead_of.nd rfl (Or.inl rfl)) (fun _ _ _ _ _ => pts_nil) (fun _ _ _ _ _ => (pe_cmpR op_lt (pv 6) (pe_fldK (K := K) rfl (pv 0) rfl) (nomark _)))) pa_nil))))))))
    (pss_one (ps_ret pe_non))
    pss_nil)
    (pss_one (ps_ret (pe_ifExp (pt_val (pe_callB (cr_all rfl) (by rfl) T.n_all (by decide +kernel) (pa_cons (pe_lc (own := [("one", 4), ("other", 5)]) (tt := tYes) rfl sc_dead_of.nd (RZ.pi_zipA (by rfl) T.n_zip (pa_cons (pv 3) (pa_cons (pe_slice sl_tup (pv 3) (po_some pe_int) po_none) pa_nil))) (blkOk_by (own := [("one", 4), ("other", 5)]) (N := N_dead_of) (sc := defScope s_dead_of) (by decide +kernel)) (fun _ _ _ _ _ => pg_tupK (K := K) (n := 2) rfl rfl (pgs_cons (pg_name (i := 4) sc_dead_of.nd rfl (Or.inl rfl)) (pgs_cons (pg_name (i := 5) sc_dead_of.nd rfl (Or.inl rfl)) pgs_nil)) rfl rfl) (fun _ _ _ _ _ => pts_nil) (fun _ _ _ _ _ => (pe_cmpR op_lt (pv 4) (pv 5) (nomark _)))) pa_nil))) (pv 3) pe_non)))))))), ?_⟩
  obtain ⟨k, n, f, r, t, g, dn, ds, rfl, rfl, hC, hp, hn, hf, n6, f6, q⟩ := h
  obtain ⟨dx, ts, h1, h2, h3, h4⟩ := id hC
  have hd2 : ∀ d ∈ ds, d ≤ 200 := fun d hd => by have := hn d hd; omega
  have l2 := row2_len hd2 (by omega)
  have hw : (dW ds).length ≤ 7 := Nat.le_trans dW_many (by omega)
  have hw0 : 1 ≤ (dW ds).length := by
    unfold dW
    split
    · decide
    · next e => rw [List.length_map]; exact List.length_pos_iff.mpr e
  walk_at "rd"
  refine ⟨⟨_, rfl⟩, ?_⟩
  walk_at "rd"
  refine ⟨by rw [S_len]; exact Nat.le_trans (show _ ≤ 16777216 by omega) (Nat.le_of_eq sizeLine_eq.symm), fun p np => ?_⟩
  rw [blank_S, split_S (by simp) (by decide)]
  have er : spl [32] 0 [] (row2 ds) = (dcW :: dW ds) := SX.spl_join (List.cons_ne_nil _ _) dW_free
  rw [er]
  have e1 : (((dcW :: dW ds).map S).map V.str) = .str (S dcW) :: ((dW ds).map S).map V.str := rfl
  rw [e1]
  have hp0 : (upd H p (.lst (.str (S dcW) :: ((dW ds).map S).map V.str))) p = _ := upd_same
  have s1 := sNew (o := .lst (.str (S dcW) :: ((dW ds).map S).map V.str)) np
  walk_at "rd"
  refine ⟨p, _, 0, _, rfl, rfl, SqL.of hp0, atI_nat (j := 0) rfl, ?_⟩
  walk_at "rd"
  refine ⟨p, _, rfl, .inl (SqL.of hp0), ?_⟩
  walk_at "rd"
  have e2 : (V.str (S dcW) :: ((dW ds).map S).map V.str).length = (dW ds).length + 1 := by rw [List.length_cons, List.length_map, List.length_map]
  rw [e2]
  refine ifF (decide_eq_false (by omega)) ?_
  walk_at "rd"
  refine ⟨p, _, rfl, SqL.of hp0, fun p2 np2 => ?_⟩
  rw [cut_from]
  have s2 := sNew (o := .lst (((dW ds).map S).map V.str)) np2
  walk_at "rd"
  refine ⟨by show 1 ≤ sizeLine; decide, fun p3 np3 => ?_⟩
  have s3 := sNew (o := .lst [.str "-"]) np3
  refine ⟨.list (((dW ds).map S).map PyData.str), .list [.str "-"], .lst (SqL.of (s3 _ _ upd_same)) (dp_strs _), .lst (SqL.of upd_same) (.cons (.str _) .nil), (shp_list (k := 0) fun d hd => ?_).ok (by decide), (shp_list (k := 0) fun d hd => ?_).ok (by decide), ?_⟩
  · obtain ⟨x, hx, rfl⟩ := List.mem_map.mp hd
    obtain ⟨y, hy, rfl⟩ := List.mem_map.mp hx
    exact ⟨sign_ok (dW_ok y hy), Nat.zero_le _⟩
  · rw [List.mem_singleton.mp hd, mi_S]
    exact ⟨sign_ok (by decide), Nat.zero_le _⟩
  rw [mi_S, dash_eq]
  refine ⟨_, rfl, ?_⟩
  have sA := (s1.trans s2).trans s3
  refine ite2 (fun c => ?_) (fun c => ?_)
  · have c := of_decide_eq_true c
    subst c
    refine ⟨Nat.zero_le _, fun p4 np4 => ?_⟩
    exact q p4 _ (sA.trans (sNew np4)) (sA.free np4) upd_same
  · have c : ds ≠ [] := fun e => c (decide_eq_true e)
    have ew : ((dW ds).map S).map V.str = ds.map wV := by
      rw [dW_num c, List.map_map, List.map_map]
      rfl
    walk_at "rd"
    refine ⟨p, _, rfl, SqL.of (s3 _ _ (s2 _ _ hp0)), fun p4 np4 => ?_⟩
    rw [cut_from]
    walk_at "rd"
    refine ⟨p4, ds, rfl, SqL.of (by rw [upd_same]; show _ = some (HO.lst (ds.map wV)); rw [← ew]; rfl), hd2, by omega, fun q2 H2 sm2 nq2 hq2 => ?_⟩
    have sB := (sA.trans (sNew np4)).trans sm2
    have nq := (sA.trans (sNew np4)).free nq2
    have hk := sB _ _ h1
    walk_at "rd"
    refine ⟨q2, _, rfl, .inr (SqT.of hq2), ?_⟩
    walk_at "rd"
    refine ⟨_, _, _, _, _, rfl, hk, T.cl, T.a_failures, fl_failures, ?_⟩
    walk_at "rd"
    refine ifF (decide_eq_false (by rw [List.length_map]; omega)) ?_
    walk_at "rd"
    refine ⟨⟨_, SqT.of hq2⟩, fun D nD => lc_tup (K := K) (a := q2) (xs := ds.map iV) (fun i H' => Same H2 H' ∧ H' D = some (.lst ((List.replicate i true).map V.bl))) ⟨sNew nD, upd_same⟩ (fun i H' _ h => SqT.of (h.1 _ _ hq2)) ?_ ?_⟩
    · rintro i x H' hi ⟨sm, hD⟩
      obtain ⟨d, hd, rfl⟩ := map_atF hi
      have hdn := hn d (List.mem_of_getElem? hd)
      have hi2 : i < ds.length := by
        rw [List.getElem?_eq_some_iff] at hd
        exact hd.1
      refine ⟨rfl, ?_⟩
      walk_at "rd"
      refine ⟨_, _, _, _, _, rfl, sm _ _ hk, T.cl, T.a_n, fl_n, ?_⟩
      walk_at "rd"
      dsimp only
      rw [decide_eq_true (show (((d : Nat) : Int) < (n : Nat)) by omega)]
      refine ⟨_, hD, ?_, rep_put nD sm⟩
      rw [List.length_map, List.length_replicate]
      exact small1000 (by omega)
    · rintro H3 ⟨sm, hD⟩
      refine ⟨D, _, rfl, SqL.of hD, ?_⟩
      rw [all_rep]
      walk_at "rd"
      have hq3 := sm _ _ hq2
      refine ⟨q2, _, rfl, SqT.of hq3, fun e => ?_, fun p5 np5 => ?_⟩
      · have e1 := e.1
        rw [show HT.sIx (ds.map iV).length 0 (some 1) = min 1 (ds.map iV).length from HT.sIx_nat _ 0 1, List.length_map] at e1
        have := List.length_pos_iff.mpr c
        omega
      rw [cut_from]
      have s5 := sNew (o := .tup ((ds.map iV).drop 1)) np5
      walk_at "rd"
      refine ⟨q2, p5, _, _, rfl, .inr ⟨SqT.of (s5 _ _ hq3), SqT.of upd_same, ?_⟩⟩
      refine fun D2 nD2 => lc_it (walk_zipT (xs := ds.map iV) (ys := (ds.map iV).drop 1) rfl) (fun i H' => Same (upd H3 p5 (.tup ((ds.map iV).drop 1))) H' ∧ H' D2 = some (.lst ((List.replicate i true).map V.bl))) ⟨sNew nD2, upd_same⟩ (fun i H' _ h => ⟨SqT.of (h.1 _ _ (s5 _ _ hq3)), SqT.of (h.1 _ _ upd_same)⟩) ?_ ?_
      · rintro i x H1 H' hi ⟨sm6, hD6⟩ ⟨a6, x1, y1, rfl, n6, rfl, hx, hy⟩
        have hl : min (ds.map iV).length ((ds.map iV).drop 1).length = ds.length - 1 := by
          rw [List.length_drop, List.length_map]
          omega
        rw [hl] at hi
        rw [← List.map_drop] at hy
        obtain ⟨d1, hd1, rfl⟩ := map_atF hx
        obtain ⟨d2, hd2, rfl⟩ := map_atF hy
        have hlt : d1 < d2 := by
          rw [List.getElem?_drop] at hd2
          obtain ⟨h7, rfl⟩ := List.getElem?_eq_some_iff.mp hd1
          obtain ⟨h8, rfl⟩ := List.getElem?_eq_some_iff.mp hd2
          exact List.pairwise_iff_getElem.mp hp i (1 + i) h7 h8 (by omega)
        have sm7 := sm6.trans (sNew (o := .tup [iV d1, iV d2]) n6)
        refine ⟨_, _, rfl, SqT.of upd_same, rfl, ?_⟩
        walk_at "rd"
        dsimp only
        rw [decide_eq_true (show (((d1 : Nat) : Int) < (d2 : Nat)) by omega)]
        refine ⟨_, sNew n6 _ _ hD6, ?_, rep_put nD2 sm7⟩
        rw [List.length_map, List.length_replicate]
        exact small1000 (by omega)
      · rintro H9 ⟨sm9, hD9⟩
        refine ⟨D2, _, rfl, SqL.of hD9, ?_⟩
        rw [all_rep]
        walk_at "rd"
        exact q q2 _ (fun b o e => sm9 _ _ (s5 _ _ (sm _ _ (sB _ _ e)))) nq (sm9 _ _ (s5 _ _ hq3))
end
end EF
namespace EF
open PySem PySem.Spec PyProof.Rows L2
local macro_rules | `(tactic| walk_at "rd") => `(tactic| repeat (first
  | refine ⟨_, rfl, ?_⟩ | refine ⟨rfl, ?_⟩ | refine ⟨_, _, rfl, ?_⟩ | refine ⟨_, _, rfl, rfl, ?_⟩ | refine ⟨_, _, _, rfl, ?_⟩ | refine ⟨_, _, _, rfl, rfl, rfl, ?_⟩ | refine ⟨_, _, _, _, rfl, ?_⟩ | refine ⟨_, _, _, _, rfl, rfl, rfl, rfl, ?_⟩ | refine ⟨_, _, _, _, _, rfl, ?_⟩))
section
variable {P : Program} {w : World} {K : PySem.W.Frag} {mg : Str → Option Value} {base : Heap}
open SX TL
abbrev sp_begun (K : PySem.W.Frag) : Sp := sp1 fun x H Q => ∃ (n f r t : Nat), x = .str (S (row1 n f r t)) ∧ Good n f r t ∧
  ∀ (k : CA) H', Same H H' → H k.c = none → H k.dd = none → H k.dl = none → Clu K H' k n f r t [] [] → Q (.ref k.c) H'
abbrev N_begun : List Str := ["row", "head"]
theorem sc_begun : FnScope N_begun ["row"] (defScope s_begun) := ⟨rfl, rfl, rfl, by decide +kernel, rfl, by decide +kernel, by decide +kernel⟩
theorem ok_begun (T : Tx K mg) : C8.Cal P w K mg base 7 "begun" (sp_begun K) [] := by
  have k_init := ok_C_init (P := P) (w := w) (K := K) (mg := mg) (base := base) T
  have c_head_of := ok_head_of (P := P) (w := w) (K := K) (mg := mg) (base := base) T
  refine calD (k := 6) (N := N_begun) (ps := ["row"]) T.g_begun T.f_begun (fun _ _ _ _ _ _ us hl => match us, hl with | [_], _ => rfl) sc_begun len1 (fun cdv A outer s H vs Q E hr h => ?_)
  obtain ⟨x1, rfl, h⟩ := h
  refine ⟨_, (pss_cons (ps_set (i := 1) sc_begun.nd rfl (Or.inl rfl) (C8.pe_c c_head_of hr (by decide) (by rfl) (pa_cons (pv 0) (pa_cons pe_str (pa_cons pe_int pa_nil)))))
    (pss_cons (ps_if (pt_cmpR op_isN (pv 1) pe_non (nomark _))
    (pss_one (ps_ret pe_non))
    pss_nil)
    (pss_one (ps_try_thru0 (pss_one (ps_ret (C8.pe_mk k_init hr (by decide) (by rfl) (pa_cons (pe_ix ix_tup (pv 1) pe_int (fun _ _ => rfl)) (pa_cons (pe_ix ix_tup (pv 1) pe_int (fun _ _ => rfl)) (pa_cons (pe_ix ix_tup (pv 1) pe_int (fun _ _ => rfl)) (pa_cons (pe_ix ix_tup (pv 1) pe_int (fun _ _ => rfl)) pa_nil))))))))))), ?_⟩
  obtain ⟨n, f, r, t, rfl, hG, q⟩ := h
  have g6 := hG.gt.n6
  have g2 := hG.gt.n2
  have fn := hG.fn
  have rn := hG.rn
  have ht := hG.gt.all.2.2.2
  have l1 := row1_len (n := n) (f := f) (r := r) (t := t) (by omega) (by omega) (by omega) (by omega)
  walk_at "rd"
  refine ⟨by decide, by decide, fun d hd => ?_, by show 4 ≤ 100; decide, Nat.le_trans l1 (by decide), fun a H1 sm1 na ha => ?_⟩
  · simp only [List.mem_cons, List.not_mem_nil, or_false] at hd
    rcases hd with rfl | rfl | rfl | rfl <;> omega
  walk_at "rd"
  refine ⟨a, _, 0, _, rfl, rfl, SqT.of ha, atI_nat (j := 0) rfl, ?_⟩
  refine ⟨_, rfl, a, _, 1, _, rfl, rfl, SqT.of ha, atI_nat (j := 1) rfl, ?_⟩
  refine ⟨_, rfl, a, _, 2, _, rfl, rfl, SqT.of ha, atI_nat (j := 2) rfl, ?_⟩
  refine ⟨_, rfl, a, _, 3, _, rfl, rfl, SqT.of ha, atI_nat (j := 3) rfl, ?_⟩
  intro x dx2 nx ndx nex
  refine ⟨_, _, _, _, _, rfl, x, n, f, r, t, rfl, rfl, rfl, rfl, rfl, dx2, upd_same, hG, fun dd dl H2 kp ndd ndl nd hC1 => ⟨rfl, ?_⟩⟩
  have sm2 : Same H1 H2 := fun b o e => kp b o (fun z => by rw [List.mem_singleton.mp z, nx] at e; cases e) (by rw [upd_ne (ne_of_none e nx), upd_ne (ne_of_none e ndx)]; exact e)
  have back : ∀ b, upd (upd H1 dx2 (.own x)) x (.ins (Cc K) dx2 []) b = none → H1 b = none := fun b e => by
    have nb : b ≠ x := fun z => by rw [z, upd_same] at e; cases e
    have nb2 : b ≠ dx2 := fun z => by rw [z, upd_ne nex, upd_same] at e; cases e
    rw [upd_ne nb, upd_ne nb2] at e
    exact e
  exact q ⟨x, dd, dl⟩ H2 (sm1.trans sm2) (sm1.free nx) (sm1.free (back _ ndd)) (sm1.free (back _ ndl)) hC1
abbrev sp_read_cluster (K : PySem.W.Frag) : Sp := sp1 fun x H Q => ∃ (n f r t : Nat) (ds : List Nat), x = .str (S (txtL n f r t ds)) ∧ Good n f r t ∧ ds.Pairwise (· < ·) ∧ (∀ d ∈ ds, d < n) ∧ ds.length ≤ f ∧
  ∀ (k : CA) H', Same H H' → H k.c = none → H k.dd = none → H k.dl = none → Clu K H' k n f r t (ds.map fun i : Nat => (i : Int)) [] → Q (.ref k.c) H'
abbrev N_read_cluster : List Str := ["text", "rows", "cluster", "dead", "server"]
theorem sc_read_cluster : FnScope N_read_cluster ["text"] (defScope s_read_cluster) := ⟨rfl, rfl, rfl, by decide +kernel, rfl, by decide +kernel, by decide +kernel⟩
theorem ok_read_cluster (T : Tx K mg) : C8.Cal P w K mg base 8 "read_cluster" (sp_read_cluster K) [] := by
  have c_dead_of := ok_dead_of (P := P) (w := w) (K := K) (mg := mg) (base := base) T
  have c_begun := ok_begun (P := P) (w := w) (K := K) (mg := mg) (base := base) T
  have c_rows_of := ok_rows_of (P := P) (w := w) (K := K) (mg := mg) (base := base) T
  refine calD (k := 7) (N := N_read_cluster) (ps := ["text"]) T.g_read_cluster T.f_read_cluster (fun _ _ _ _ _ _ us hl => match us, hl with | [_], _ => rfl) sc_read_cluster len1 (fun cdv A outer s H vs Q E hr h => ?_)
  obtain ⟨x1, rfl, h⟩ := h
  refine ⟨_, (pss_cons (ps_set (i := 1) sc_read_cluster.nd rfl (Or.inl rfl) (C8.pe_c c_rows_of hr (by decide) (by rfl) (pa_cons (pv 0) pa_nil)))
    (pss_cons (ps_set (i := 2) sc_read_cluster.nd rfl (Or.inl rfl) (C8.pe_c c_begun hr (by decide) (by rfl) (pa_cons (pe_ix (ix_listK (K := K) rfl) (pv 1) pe_int (fun _ _ => rfl)) pa_nil)))
    (pss_cons (ps_if (pt_cmpR op_isN (pv 2) pe_non (nomark _))
    (pss_one ps_never)
    pss_nil)
    (pss_cons (ps_if (pt_cmpR op_lt (pe_callB call_len_seq (by rfl) T.n_len PySem.boot_len (pa_cons (pv 1) pa_nil)) pe_int (nomark _))
    (pss_one ps_never)
    pss_nil)
    (pss_cons (ps_set (i := 3) sc_read_cluster.nd rfl (Or.inl rfl) (C8.pe_c c_dead_of hr (by decide) (by rfl) (pa_cons (pv 2) (pa_cons (pe_ix (ix_listK (K := K) rfl) (pv 1) pe_int (fun _ _ => rfl)) pa_nil))))
    (pss_cons (ps_if (pt_cmpR op_isN (pv 3) pe_non (nomark _))
    (pss_one ps_never)
    pss_nil)
    (pss_cons (ps_if (pt_cmpR op_gt (pe_callB call_len_seq (by rfl) T.n_len PySem.boot_len (pa_cons (pv 1) pa_nil)) pe_int (nomark _))
    (pss_one ps_never)
    pss_nil)
    (pss_cons (ps_fld (pv 2) (pe_dc (own := [("server", 4)]) (g := gName 4) (tt := tYes) rfl sc_read_cluster.nd (pi_tup (pv 3)) (blkOk_by (own := [("server", 4)]) (N := N_read_cluster) (sc := defScope s_read_cluster) (by decide +kernel)) (fun _ _ _ _ _ => pg_name (i := 4) sc_read_cluster.nd rfl (Or.inl rfl)) (fun _ _ _ _ _ => pts_nil) (fun _ _ _ _ _ => (pv 4)) (fun _ _ _ _ _ => pe_bl)) rfl)
    (pss_one (ps_ret (pv 2))))))))))), ?_⟩
  obtain ⟨n, f, r, t, ds, rfl, hG, hp, hn, hf, q⟩ := h
  have g6 := hG.gt.n6
  have g2 := hG.gt.n2
  have fn := hG.fn
  have rn := hG.rn
  have ht := hG.gt.all.2.2.2
  have hd2 : ∀ d ∈ ds, d ≤ 200 := fun d hd => by have := hn d hd; omega
  have l1 := row1_len (n := n) (f := f) (r := r) (t := t) (by omega) (by omega) (by omega) (by omega)
  have l2 := row2_len hd2 (by omega)
  have hlen : (txtL n f r t ds).length ≤ 10000 := by
    show (row1 n f r t ++ ([10] ++ row2 ds)).length ≤ 10000
    rw [List.length_append, List.length_append]
    show _ + (1 + _) ≤ _
    omega
  walk_at "rd"
  refine ⟨List.cons_ne_nil _ _, fun p hp => ?_, hlen, fun a H1 sm1 na ha => ?_⟩
  · simp only [List.mem_cons, List.not_mem_nil, or_false] at hp
    rcases hp with rfl | rfl
    · exact row1_free
    · exact row2_free
  have ha : H1 a = some (.lst [.str (S (row1 n f r t)), .str (S (row2 ds))]) := ha
  walk_at "rd"
  refine ⟨a, _, 0, _, rfl, rfl, SqL.of ha, atI_nat (j := 0) rfl, ?_⟩
  walk_at "rd"
  refine ⟨hG, fun k H2 sm2 nc ndd ndl hC => ?_⟩
  have ha2 := sm2 _ _ ha
  walk_at "rd"
  refine ⟨a, _, rfl, .inl (SqL.of ha2), ?_⟩
  walk_at "rd"
  refine ⟨a, _, 1, _, rfl, rfl, SqL.of ha2, atI_nat (j := 1) rfl, ?_⟩
  refine ⟨_, _, rfl, k, n, f, r, t, [], [], ds, rfl, rfl, hC, hp, hn, hf, g6, by omega, fun qa H3 sm3 nq hq => ?_⟩
  have ha3 := sm3 _ _ ha2
  have hC3 := hC.same sm3
  obtain ⟨dx, ts, j1, j2, j3, j4⟩ := id hC3
  walk_at "rd"
  refine ⟨a, _, rfl, .inl (SqL.of ha3), ?_⟩
  walk_at "rd"
  refine ⟨⟨_, SqT.of hq⟩, fun D nD => dc_tup (K := K) (a := qa) (xs := ds.map iV) (fun i H' => Same H3 H' ∧ H' D = some (.dK (dk ((ds.take i).map fun i : Nat => (i : Int))))) ⟨sNew nD, upd_same⟩ (fun i H' _ h => SqT.of (h.1 _ _ hq)) ?_ ?_⟩
  · rintro i x H' hi ⟨sm, hD⟩
    obtain ⟨d, hd, rfl⟩ := map_atF hi
    refine ⟨rfl, ?_⟩
    walk_at "rd"
    refine ⟨_, Sum.inl (d : Int), rfl, hD, ?_, sPut sm nD, ?_⟩
    · rw [dk_len, List.length_map, List.length_take]
      exact small1000 (by omega)
    · rw [upd_same, take_snoc hd, List.map_append, dk_put]
      · rfl
      · intro hm
        obtain ⟨e, he, h9⟩ := List.mem_map.mp hm
        have e2 : e = d := by omega
        subst e2
        obtain ⟨j, hj, h8⟩ := List.mem_iff_getElem.mp he
        have hj2 : j < ds.length := by rw [List.length_take] at hj; omega
        have hj3 : j < i := by rw [List.length_take] at hj; omega
        rw [List.getElem_take] at h8
        obtain ⟨h7, h6⟩ := List.getElem?_eq_some_iff.mp hd
        have := List.pairwise_iff_getElem.mp hp j i hj2 h7 hj3
        omega
  · rintro H4 ⟨sm4, hD⟩
    rw [List.length_map, List.take_length] at hD
    have k1 := sm4 _ _ j1
    have k3 := sm4 _ _ j3
    walk_at "rd"
    refine ⟨_, _, _, _, rfl, k1, T.cl, T.a_dead, fl_len, ?_⟩
    rw [fl_putdead]
    walk_at "rd"
    have sm24 : Same H H4 := fun b o e => sm4 _ _ (sm3 _ _ (sm2 _ _ (sm1 _ _ e)))
    have nc0 := sm1.free nc
    refine q ⟨k.c, D, k.dl⟩ _ (sPut sm24 nc0) nc0 ?_ (sm1.free ndl) ⟨dx, ts, upd_same, ?_, ?_, ?_⟩
    · exact sm1.free (sm2.free (sm3.free nD))
    · have ne : D ≠ k.c := fun e => by rw [e, k1] at hD; cases hD
      exact (upd_ne ne).trans hD
    · have ne : k.dl ≠ k.c := fun e => by rw [e, k1] at k3; cases k3
      exact (upd_ne ne).trans k3
    · exact (j4.up fun b xs e => by
        have e4 := sm4 _ _ e
        have ne : b ≠ k.c := fun z => by rw [z, k1] at e4; cases e4
        exact (upd_ne ne).trans e4)
end
end EF
namespace EF
open PySem PySem.Spec PyProof.Rows L2
local macro_rules | `(tactic| walk_at "rd") => `(tactic| repeat (first
  | refine ⟨_, rfl, ?_⟩ | refine ⟨rfl, ?_⟩ | refine ⟨_, _, rfl, ?_⟩ | refine ⟨_, _, rfl, rfl, ?_⟩ | refine ⟨_, _, _, rfl, ?_⟩ | refine ⟨_, _, _, rfl, rfl, rfl, ?_⟩ | refine ⟨_, _, _, _, rfl, ?_⟩ | refine ⟨_, _, _, _, rfl, rfl, rfl, rfl, ?_⟩ | refine ⟨_, _, _, _, _, rfl, ?_⟩))
section
variable {P : Program} {w : World} {K : PySem.W.Frag} {mg : Str → Option Value} {base : Heap}
def ST (H : Hp) (sa : Addr) : Prop := ∃ a b : Int, H sa = some (.lst [.int a, .int b])
theorem ST.same {H H' : Hp} {sa : Addr} (h : ST H sa) (e : Same H H') : ST H' sa := let ⟨a, b, h⟩ := h; ⟨a, b, e _ _ h⟩
theorem ST.kp {S : List Addr} {H H' : Hp} {sa : Addr} (h : ST H sa) (e : Kp S H H') (n : sa ∉ S) : ST H' sa := let ⟨a, b, h⟩ := h; ⟨a, b, e _ _ n h⟩
theorem Kp.free1 {H H' : Hp} {sa q : Addr} (k : Kp [sa] H H') (h : ST H' sa) (e : H' q = none) : H q = none := by
  obtain ⟨a, b, h⟩ := h
  have n : q ≠ sa := fun z => by rw [z, h] at e; cases e
  cases c : H q with
  | none => rfl
  | some o => rw [k q o (fun z => n (List.mem_singleton.mp z)) c] at e; cases e
abbrev sp__law_stream (K : PySem.W.Frag) : Sp := sp2 fun x y H Q => ∃ (a : Addr) (k : Nat) (ns : List Int), x = .ref a ∧ y = .int k ∧ SqL K H a (ns.map V.int) ∧ k ≤ 3 ∧ ∀ q H', Same H H' → H q = none → ST H' q → Q (.ref q) H'
theorem at_lt {ns : List Int} {k : Nat} (h : k < ns.length) : ∃ z, ns[k]? = some z := ⟨ns[k], List.getElem?_eq_getElem h⟩
theorem bit_mul (b : Bool) : -(2 ^ 64) < (if b = true then 1 else 0 : Int) ∧ (if b = true then 1 else 0 : Int) < 2 ^ 64 := by cases b <;> decide
theorem big_size : ("1" : Str).length + (tenZ 900).length ≤ sizeLine := by
  have h : ("1" : Str).length + (tenZ 900).length = bigZ.cps.toList.length := by
    rw [Array.length_toList]
    exact (Array.size_append ..).symm
  rw [h, big_list, List.length_cons, List.length_replicate]
  exact Nat.le_trans (show 900 + 1 ≤ 16777216 by decide) (Nat.le_of_eq sizeLine_eq.symm)
abbrev N__law_stream : List Str := ["_law_script", "_law_k", "_law_cell", "_law_own"]
theorem sc__law_stream : FnScope N__law_stream ["_law_script", "_law_k"] (defScope s__law_stream) := ⟨rfl, rfl, rfl, by decide +kernel, rfl, by decide +kernel, by decide +kernel⟩
theorem ok__law_stream (T : Tx K mg) : C8.Cal P w K mg base 1 "_law_stream" (sp__law_stream K) [] := by
  refine calD (k := 0) (N := N__law_stream) (ps := ["_law_script", "_law_k"]) T.g__law_stream T.f__law_stream (fun _ _ _ _ _ _ us hl => match us, hl with | [_, _], _ => rfl) sc__law_stream len2 (fun cdv A outer s H vs Q E hr h => ?_)
  obtain ⟨x1, x2, rfl, h⟩ := h
  refine ⟨_, (pss_cons (ps_set (i := 2) sc__law_stream.nd rfl (Or.inl rfl) (pe_ifExp (pt_cmpR op_lt (pv 1) (pe_callB call_len_seq (by rfl) T.n_len PySem.boot_len (pa_cons (pv 0) pa_nil)) (nomark _)) (pe_ix (ix_listK (K := K) rfl) (pv 0) (pv 1) (fun _ _ => rfl)) (pe_op op_add (pe_op op_mul pe_int (pv 1)) (pe_callB call_len_seq (by rfl) T.n_len PySem.boot_len (pa_cons (pv 0) pa_nil)))))
    (pss_cons (ps_set (i := 3) sc__law_stream.nd rfl (Or.inl rfl) (pe_op op_mul (pe_op op_mod (pe_callB call_abs (by rfl) T.n_abs (by decide +kernel) (pa_cons (pv 2) pa_nil)) (pe_callTy (call_intBig T.digits) (by rfl) T.n_int (by decide +kernel) (pa_cons (pe_op op_add_str pe_str (pe_op op_mulS pe_str pe_int)) pa_nil))) (pe_callTy call_int1 (by rfl) T.n_int (by decide +kernel) (pa_cons (pe_cmpR op_ge (pe_callB call_abs (by rfl) T.n_abs (by decide +kernel) (pa_cons (pv 2) pa_nil)) (pe_op op_pow pe_int pe_int) (nomark _)) pa_nil))))
    (pss_one (ps_ret (pe_lst (pa_cons (pv 3) (pa_cons (pe_op op_mod (pe_op op_mul (pe_op op_add (pe_op op_add (pe_op op_mod (pv 2) pe_int) (pe_op op_mul (pe_op op_mul pe_int (pv 1)) (pv 1))) pe_int) pe_int) pe_int) pa_nil))))))), ?_⟩
  obtain ⟨a, k, ns, rfl, rfl, hS, hk, q⟩ := h
  walk_at "rd"
  refine ⟨a, _, rfl, .inl hS, ?_⟩
  rw [List.length_map]
  walk_at "rd"
  refine ite2 (fun c => ?_) (fun c => ?_)
  · have c := of_decide_eq_true c
    obtain ⟨z, hz⟩ := at_lt (ns := ns) (k := k) (by omega)
    have hz2 : (ns.map V.int)[k]? = some (V.int z) := by rw [List.getElem?_map, hz]; rfl
    walk_at "rd"
    refine ⟨a, _, (k : Int), _, rfl, rfl, hS, (atI_nat (j := k) hz2), ?_⟩
    walk_at "rd"
    refine ⟨big_size, ?_⟩
    walk_at "rd"
    refine ⟨big_pos, ?_⟩
    walk_at "rd"
    refine ⟨⟨by decide, by decide, by decide⟩, ?_⟩
    walk_at "rd"
    refine .inr ⟨_, rfl, _, _, rfl, rfl, .inr (bit_mul _), ?_⟩
    walk_at "rd"
    refine ⟨show (0 : Int) < 2305843009213693951 by decide, ?_⟩
    walk_at "rd"
    refine ⟨.inl ⟨by decide, by decide⟩, ?_⟩
    walk_at "rd"
    refine ⟨.inr ⟨by omega, by omega⟩, ?_⟩
    walk_at "rd"
    refine ⟨.inr ⟨by decide, by decide⟩, ?_⟩
    walk_at "rd"
    refine ⟨show (0 : Int) < 2305843009213693951 by decide, ?_⟩
    walk_at "rd"
    refine ⟨by show 2 ≤ sizeLine; decide, fun qa nq => ?_⟩
    exact q qa _ (sNew nq) nq ⟨_, _, upd_same⟩
  · walk_at "rd"
    refine ⟨.inl ⟨by omega, by omega⟩, ?_⟩
    walk_at "rd"
    refine ⟨a, _, rfl, .inl hS, ?_⟩
    walk_at "rd"
    walk_at "rd"
    refine ⟨big_size, ?_⟩
    walk_at "rd"
    refine ⟨big_pos, ?_⟩
    walk_at "rd"
    refine ⟨⟨by decide, by decide, by decide⟩, ?_⟩
    walk_at "rd"
    refine .inr ⟨_, rfl, _, _, rfl, rfl, .inr (bit_mul _), ?_⟩
    walk_at "rd"
    refine ⟨show (0 : Int) < 2305843009213693951 by decide, ?_⟩
    walk_at "rd"
    refine ⟨.inl ⟨by decide, by decide⟩, ?_⟩
    walk_at "rd"
    refine ⟨.inr ⟨by omega, by omega⟩, ?_⟩
    walk_at "rd"
    refine ⟨.inr ⟨by decide, by decide⟩, ?_⟩
    walk_at "rd"
    refine ⟨show (0 : Int) < 2305843009213693951 by decide, ?_⟩
    walk_at "rd"
    refine ⟨by show 2 ≤ sizeLine; decide, fun qa nq => ?_⟩
    exact q qa _ (sNew nq) nq ⟨_, _, upd_same⟩
abbrev sp__law_draw (K : PySem.W.Frag) : Sp := sp2 fun x y H Q => ∃ (sa : Addr) (m : Int), x = .ref sa ∧ y = .int m ∧ ST H sa ∧ 0 < m ∧ m < 1073741824 ∧ ∀ d H', 0 ≤ d → d < m → Kp [sa] H H' → ST H' sa → Q (.int d) H'
abbrev N__law_draw : List Str := ["_law_stream_here", "_law_below", "_law_digit"]
theorem sc__law_draw : FnScope N__law_draw ["_law_stream_here", "_law_below"] (defScope s__law_draw) := ⟨rfl, rfl, rfl, by decide +kernel, rfl, by decide +kernel, by decide +kernel⟩
theorem ok__law_draw (T : Tx K mg) : C8.Cal P w K mg base 1 "_law_draw" (sp__law_draw K) [] := by
  refine calD (k := 0) (N := N__law_draw) (ps := ["_law_stream_here", "_law_below"]) T.g__law_draw T.f__law_draw (fun _ _ _ _ _ _ us hl => match us, hl with | [_, _], _ => rfl) sc__law_draw len2 (fun cdv A outer s H vs Q E hr h => ?_)
  obtain ⟨x1, x2, rfl, h⟩ := h
  refine ⟨_, (pss_cons (ps_if (pt_cmpR op_gt (pe_ix (ix_listK (K := K) rfl) (pv 0) pe_int (fun _ _ => rfl)) pe_int (nomark _))
    (pss_cons (ps_set (i := 2) sc__law_draw.nd rfl (Or.inl rfl) (pe_op op_mod (pe_ix (ix_listK (K := K) rfl) (pv 0) pe_int (fun _ _ => rfl)) (pv 1)))
      (pss_cons (ps_asg (pe_op op_fdiv (pe_ix (ix_listK (K := K) rfl) (pv 0) pe_int (fun _ _ => rfl)) (pv 1)) (pg_sub (pv 0) pe_int set_list))
      (pss_one (ps_ret (pv 2)))))
    pss_nil)
    (pss_cons (ps_asg (pe_op op_mod (pe_op op_add (pe_op op_mul (pe_ix (ix_listK (K := K) rfl) (pv 0) pe_int (fun _ _ => rfl)) pe_int) pe_int) pe_int) (pg_sub (pv 0) pe_int set_list))
    (pss_one (ps_ret (pe_op op_mod (pe_op op_fdiv (pe_op op_mod (pe_op op_mul (pe_op op_fdiv (pe_ix (ix_listK (K := K) rfl) (pv 0) pe_int (fun _ _ => rfl)) pe_int) (pe_op op_add (pe_op op_mod (pe_ix (ix_listK (K := K) rfl) (pv 0) pe_int (fun _ _ => rfl)) pe_int) pe_int)) pe_int) pe_int) (pv 1)))))), ?_⟩
  obtain ⟨sa, m, rfl, rfl, ⟨u, v, hS⟩, m0, m1, q⟩ := h
  walk_at "rd"
  refine ⟨sa, _, 0, _, rfl, rfl, SqL.of hS, atI_nat (j := 0) rfl, ?_⟩
  walk_at "rd"
  refine ite2 (fun c => ?_) (fun c => ?_)
  · walk_at "rd"
    refine ⟨sa, _, 0, _, rfl, rfl, SqL.of hS, atI_nat (j := 0) rfl, ?_⟩
    walk_at "rd"
    refine ⟨m0, ?_⟩
    walk_at "rd"
    refine ⟨sa, _, 0, _, rfl, rfl, SqL.of hS, atI_nat (j := 0) rfl, ?_⟩
    walk_at "rd"
    refine ⟨⟨m0, m1⟩, ?_⟩
    walk_at "rd"
    refine ⟨sa, _, 0, 0, rfl, rfl, hS, rfl, ?_⟩
    walk_at "rd"
    exact q _ _ (Int.emod_nonneg _ (by omega)) (Int.emod_lt_of_pos _ m0) ((Kp.refl _ _).put (List.mem_singleton_self _)) ⟨_, _, upd_same⟩
  · walk_at "rd"
    refine ⟨sa, _, 1, _, rfl, rfl, SqL.of hS, atI_nat (j := 1) rfl, ?_⟩
    walk_at "rd"
    refine ⟨.inr ⟨by decide, by decide⟩, ?_⟩
    walk_at "rd"
    refine ⟨show (0 : Int) < 2305843009213693951 by decide, ?_⟩
    walk_at "rd"
    refine ⟨sa, _, 1, 1, rfl, rfl, hS, rfl, ?_⟩
    walk_at "rd"
    refine ⟨sa, _, 1, _, rfl, rfl, SqL.of upd_same, atI_nat (j := 1) rfl, ?_⟩
    walk_at "rd"
    refine ⟨⟨by decide, by decide⟩, ?_⟩
    walk_at "rd"
    refine ⟨sa, _, 1, _, rfl, rfl, SqL.of upd_same, atI_nat (j := 1) rfl, ?_⟩
    walk_at "rd"
    refine ⟨show (0 : Int) < 65537 by decide, ?_⟩
    walk_at "rd"
    refine ⟨.inr ⟨by omega, by omega⟩, ?_⟩
    walk_at "rd"
    refine ⟨show (0 : Int) < 2305843009213693921 by decide, ?_⟩
    walk_at "rd"
    refine ⟨⟨by decide, by decide⟩, ?_⟩
    walk_at "rd"
    refine ⟨m0, ?_⟩
    walk_at "rd"
    exact q _ _ (Int.emod_nonneg _ (by omega)) (Int.emod_lt_of_pos _ m0) ((Kp.refl _ _).put (List.mem_singleton_self _)) ⟨_, _, upd_same⟩
end
end EF
namespace EF
open PySem PySem.Spec PyProof.Rows L2
local macro_rules | `(tactic| walk_at "rd") => `(tactic| repeat (first
  | refine ⟨_, rfl, ?_⟩ | refine ⟨rfl, ?_⟩ | refine ⟨_, _, rfl, ?_⟩ | refine ⟨_, _, rfl, rfl, ?_⟩ | refine ⟨_, _, _, rfl, ?_⟩ | refine ⟨_, _, _, rfl, rfl, rfl, ?_⟩ | refine ⟨_, _, _, _, rfl, ?_⟩ | refine ⟨_, _, _, _, rfl, rfl, rfl, rfl, ?_⟩ | refine ⟨_, _, _, _, _, rfl, ?_⟩))
section
variable {P : Program} {w : World} {K : PySem.W.Frag} {mg : Str → Option Value} {base : Heap}
theorem er_map {α β : Type} (f : α → β) : ∀ (l : List α) (i : Nat), (l.map f).eraseIdx i = (l.eraseIdx i).map f
  | [], _ => rfl
  | a :: l, 0 => rfl
  | a :: l, i + 1 => by
    show f a :: (l.map f).eraseIdx i = _
    rw [er_map f l i]; rfl
theorem er_perm {α : Type} : ∀ (l : List α) (i : Nat) (h : i < l.length), (l[i] :: l.eraseIdx i).Perm l
  | [], _, h => absurd h (Nat.not_lt_zero _)
  | a :: l, 0, _ => List.Perm.refl _
  | a :: l, i + 1, h => by
    have h2 : i < l.length := Nat.lt_of_succ_lt_succ h
    show (l[i] :: a :: l.eraseIdx i).Perm (a :: l)
    exact (List.Perm.swap a l[i] _).trans (List.Perm.cons a (er_perm l i h2))
theorem sq_kp {K : PySem.W.Frag} {H H' : Hp} {sa pa : Addr} {xs : List V} (k : Kp [sa] H H') (n : pa ≠ sa) (h : H pa = some (.lst xs) ∨ H pa = some (.tup xs)) : H' pa = some (.lst xs) ∨ H' pa = some (.tup xs) := by
  have m : pa ∉ [sa] := fun z => n (List.mem_singleton.mp z)
  rcases h with h | h
  · exact .inl (k _ _ m h)
  · exact .inr (k _ _ m h)
abbrev sp__law_pick (K : PySem.W.Frag) : Sp := sp2 fun x y H Q => ∃ (sa pa : Addr) (xs : List V), x = .ref sa ∧ y = .ref pa ∧ ST H sa ∧ (H pa = some (.lst xs) ∨ H pa = some (.tup xs)) ∧ pa ≠ sa ∧ 0 < xs.length ∧ xs.length ≤ 1000 ∧ ∀ v H', v ∈ xs → Kp [sa] H H' → ST H' sa → Q v H'
abbrev N__law_pick : List Str := ["_law_stream_here", "_law_items"]
theorem sc__law_pick : FnScope N__law_pick ["_law_stream_here", "_law_items"] (defScope s__law_pick) := ⟨rfl, rfl, rfl, by decide +kernel, rfl, by decide +kernel, by decide +kernel⟩
theorem ok__law_pick (T : Tx K mg) : C8.Cal P w K mg base 2 "_law_pick" (sp__law_pick K) [] := by
  have c__law_draw := ok__law_draw (P := P) (w := w) (K := K) (mg := mg) (base := base) T
  refine calD (k := 1) (N := N__law_pick) (ps := ["_law_stream_here", "_law_items"]) T.g__law_pick T.f__law_pick (fun _ _ _ _ _ _ us hl => match us, hl with | [_, _], _ => rfl) sc__law_pick len2 (fun cdv A outer s H vs Q E hr h => ?_)
  obtain ⟨x1, x2, rfl, h⟩ := h
  refine ⟨_, (pss_one (ps_ret (pe_ix ix_seq (pv 1) (C8.pe_c c__law_draw hr (by decide) (by rfl) (pa_cons (pv 0) (pa_cons (pe_callB call_len_seq (by rfl) T.n_len PySem.boot_len (pa_cons (pv 1) pa_nil)) pa_nil))) (fun _ _ => rfl)))), ?_⟩
  obtain ⟨sa, pa, xs, rfl, rfl, hST, hP, hne, l0, l1, q⟩ := h
  walk_at "rd"
  refine ⟨pa, xs, rfl, hP.elim (fun h => .inl (SqL.of h)) (fun h => .inr (SqT.of h)), ?_⟩
  walk_at "rd"
  refine ⟨hST, by omega, by omega, fun d H1 d0 d1 kp hST1 => ?_⟩
  obtain ⟨i, rfl⟩ := Int.eq_ofNat_of_zero_le d0
  have hi : i < xs.length := by omega
  have hv : xs[i]? = some xs[i] := List.getElem?_eq_getElem hi
  have fin := q xs[i] H1 (List.getElem_mem hi) kp hST1
  rcases sq_kp (K := K) kp hne hP with h | h
  · exact .inl ⟨pa, xs, _, _, rfl, rfl, SqL.of h, atI_nat hv, fin⟩
  · exact .inr (.inl ⟨pa, xs, _, _, rfl, rfl, SqT.of h, atI_nat hv, fin⟩)
abbrev sp__law_shuffled (K : PySem.W.Frag) : Sp := sp2 fun x y H Q => ∃ (sa ga : Addr) (g : List Int), x = .ref sa ∧ y = .ref ga ∧ ST H sa ∧ LI H ga g ∧ g.length ≤ 1000 ∧ ∀ qa p H', Kp [sa] H H' → ST H' sa → H qa = none → LI H' qa p → p.Perm g → Q (.ref qa) H'
abbrev N__law_shuffled : List Str := ["_law_stream_here", "_law_items", "_law_left", "_law_found"]
theorem sc__law_shuffled : FnScope N__law_shuffled ["_law_stream_here", "_law_items"] (defScope s__law_shuffled) := ⟨rfl, rfl, rfl, by decide +kernel, rfl, by decide +kernel, by decide +kernel⟩
theorem ok__law_shuffled (T : Tx K mg) : C8.Cal P w K mg base 2 "_law_shuffled" (sp__law_shuffled K) [] := by
  have c__law_draw := ok__law_draw (P := P) (w := w) (K := K) (mg := mg) (base := base) T
  refine calD (k := 1) (N := N__law_shuffled) (ps := ["_law_stream_here", "_law_items"]) T.g__law_shuffled T.f__law_shuffled (fun _ _ _ _ _ _ us hl => match us, hl with | [_, _], _ => rfl) sc__law_shuffled len2 (fun cdv A outer s H vs Q E hr h => ?_)
  obtain ⟨x1, x2, rfl, h⟩ := h
  refine ⟨_, (pss_cons (ps_par (i := 2) (j := 3) rfl sc__law_shuffled.nd rfl rfl (by decide) rfl rfl (pa_cons (pe_callTy call_list_of (by rfl) T.n_list (by decide +kernel) (pa_cons (pv 1) pa_nil)) (pa_cons (pe_lst pa_nil) pa_nil)) (by rfl))
    (pss_cons (ps_while PassesOwn.never (pt_cmpR (op_neD hr.units) (pv 2) (pe_lst pa_nil) (nomark _))
    (pss_one (ps_expr (pe_bm PySem.F.plainAttrs_list PySem.F.slot_list_append PySem.F.type_list_append mt_append (pv 3) (pa_cons (pe_bm PySem.F.plainAttrs_list PySem.F.slot_list_pop PySem.F.type_list_pop mt_popAt (pv 2) (pa_cons (C8.pe_c c__law_draw hr (by decide) (by rfl) (pa_cons (pv 0) (pa_cons (pe_callB call_len_seq (by rfl) T.n_len PySem.boot_len (pa_cons (pv 2) pa_nil)) pa_nil))) pa_nil)) pa_nil)))))
    (pss_one (ps_ret (pv 3))))), ?_⟩
  obtain ⟨sa, ga, g, rfl, rfl, hST, hG, l1, q⟩ := h
  walk_at "rd"
  refine ⟨ga, _, rfl, .inl (SqL.of hG), fun L nL => ?_⟩
  walk_at "rd"
  refine ⟨Nat.zero_le _, fun D nD => ?_⟩
  walk_at "rd"
  have nL2 : H L = none := nL
  have sL := sNew (o := .lst (g.map V.int)) nL
  have nD2 : H D = none := sL.free nD
  have sD := sNew (o := .lst []) nD
  have hL0 : (upd (upd H L (.lst (g.map V.int))) D (.lst [])) L = some (.lst (g.map V.int)) := sD _ _ upd_same
  obtain ⟨u0, v0, hS0⟩ := id hST
  have nLs : L ≠ sa := fun e => by rw [e, hS0] at nL2; cases nL2
  have nDs : D ≠ sa := fun e => by rw [e, hS0] at nD2; cases nD2
  have nLD : L ≠ D := fun e => by rw [← e, upd_same] at nD; cases nD
  refine ⟨fun m σ H' => σ = [some (.ref sa), some (.ref ga), some (.ref L), some (.ref D)] ∧ Kp [sa] H H' ∧ ST H' sa ∧ ∃ lf fd : List Int, lf.length = m ∧ LI H' L lf ∧ LI H' D fd ∧ (fd ++ lf).Perm g, ⟨g.length, rfl, Kp.of (sL.trans sD), hST.same (sL.trans sD), g, [], rfl, hL0, upd_same, List.Perm.refl _⟩, ?_⟩
  rintro m σ H1 ⟨rfl, kp, hST1, lf, fd, rfl, hL, hD, pm⟩
  have pl := pm.length_eq
  rw [List.length_append] at pl
  walk_at "rd"
  refine ⟨Nat.zero_le _, fun z nz => ?_⟩
  have sz := sNew (o := .lst []) nz
  refine ⟨.list (lf.map PyData.int), .list [], .lst (SqL.of (sz _ _ hL)) (dp_ints _), .lst (SqL.of upd_same) .nil, (shp_list (k := 0) fun d hd => ?_).ok (by decide), shp_nil.ok (by decide), ?_⟩
  · obtain ⟨i, _, rfl⟩ := List.mem_map.mp hd
    exact shp_int 0 i
  have e5 : (PyData.list (lf.map PyData.int)).eqv (.list []) = decide (lf = []) := by
    cases lf <;> rfl
  rw [e5]
  refine ⟨_, rfl, ?_⟩
  refine ite2 (fun c => ?_) (fun c => ?_)
  · have c0 : lf ≠ [] := fun e => by
      rw [e] at c
      exact Bool.noConfusion c
    have hL2 := sz _ _ hL
    have hD2 := sz _ _ hD
    have hST2 := hST1.same sz
    have hp := List.length_pos_iff.mpr c0
    refine ⟨fun σ' H'' => ∃ m', m' < lf.length ∧ (σ' = [some (.ref sa), some (.ref ga), some (.ref L), some (.ref D)] ∧ Kp [sa] H H'' ∧ ST H'' sa ∧ ∃ lf fd : List Int, lf.length = m' ∧ LI H'' L lf ∧ LI H'' D fd ∧ (fd ++ lf).Perm g), fun _ _ z => z, ?_⟩
    walk_at "rd"
    refine ⟨.inl ⟨rfl, _, SqL.of hD2⟩, ?_⟩
    walk_at "rd"
    refine ⟨.inl ⟨rfl, _, SqL.of hL2⟩, ?_⟩
    walk_at "rd"
    refine ⟨L, _, rfl, .inl (SqL.of hL2), ?_⟩
    rw [List.length_map]
    walk_at "rd"
    refine ⟨hST2, by omega, by omega, fun d H2 d0 d1 kp2 hST3 => ?_⟩
    obtain ⟨i, rfl⟩ := Int.eq_ofNat_of_zero_le d0
    have hi : i < lf.length := by omega
    have hL3 : LI H2 L lf := kp2 _ _ (fun z => nLs (List.mem_singleton.mp z)) hL2
    have hD3 : LI H2 D fd := kp2 _ _ (fun z => nDs (List.mem_singleton.mp z)) hD2
    walk_at "rd"
    refine ⟨L, _, (i : Int), i, .int lf[i], rfl, rfl, hL3, by omega, by omega, ?_, ?_, ?_⟩
    · unfold seqIndex?
      rw [List.length_map]
      have e1 : ¬ ((i : Int) < 0) := by omega
      simp only [e1, if_false]
      have e2 : (decide ((0 : Int) ≤ (i : Int)) && decide ((i : Int) < (lf.length : Nat))) = true := by
        rw [decide_eq_true (by omega), decide_eq_true (by omega)]; rfl
      rw [e2]
      rfl
    · rw [List.getElem?_map, List.getElem?_eq_getElem hi]; rfl
    have nDL : D ≠ L := fun e => nLD e.symm
    have hD4 : LI (upd H2 L (.lst ((lf.map V.int).eraseIdx i))) D fd := (upd_ne nDL).trans hD3
    walk_at "rd"
    refine ⟨_, _, _, rfl, rfl, hD4, by rw [List.length_map]; exact small1000 (by omega), ?_⟩
    refine ⟨lf.length - 1, by omega, rfl, ?_, ?_, lf.eraseIdx i, fd ++ [lf[i]], by rw [List.length_eraseIdx, if_pos hi], ?_, ?_, ?_⟩
    · intro b o n e
      have n1 : b ≠ L := fun z => by rw [z, nL2] at e; cases e
      have n2 : b ≠ D := fun z => by rw [z, nD2] at e; cases e
      rw [upd_ne n2, upd_ne n1]
      exact kp2 b o n (sz _ _ (kp b o n e))
    · obtain ⟨u1, v1, h1⟩ := hST3
      exact ⟨u1, v1, (upd_ne nDs.symm).trans ((upd_ne nLs.symm).trans h1)⟩
    · show upd _ D _ L = _
      rw [upd_ne nLD, upd_same, er_map]
    · show upd _ D _ D = _
      rw [upd_same, List.map_append]; rfl
    · rw [List.append_assoc]
      refine List.Perm.trans (List.Perm.append_left fd ?_) pm
      exact er_perm lf i hi
  · have c0 : lf = [] := by
      by_cases e : lf = []
      · exact e
      · rw [decide_eq_false e] at c
        exact absurd rfl c
    subst c0
    rw [List.append_nil] at pm
    walk_at "rd"
    exact q D fd _ (fun b o n e => sz _ _ (kp b o n e)) (hST1.same sz) nD2 (sz _ _ hD) pm
abbrev sp__law_sizes (K : PySem.W.Frag) : Sp := sp2 fun x y H Q => ∃ (sa : Addr), x = .ref sa ∧ y = .int 5 ∧ ST H sa ∧ ∀ q n f r t H', Good n f r t → Kp [sa] H H' → ST H' sa → H q = none → H' q = some (.tup [.int (n : Nat), .int (f : Nat), .int (r : Nat), .int (t : Nat)]) → Q (.ref q) H'
abbrev N__law_sizes : List Str := ["_law_stream_here", "_law_most", "_law_n", "_law_down", "_law_copies_of", "_law_depth"]
theorem sc__law_sizes : FnScope N__law_sizes ["_law_stream_here", "_law_most"] (defScope s__law_sizes) := ⟨rfl, rfl, rfl, by decide +kernel, rfl, by decide +kernel, by decide +kernel⟩
theorem ok__law_sizes (T : Tx K mg) : C8.Cal P w K mg base 3 "_law_sizes" (sp__law_sizes K) [] := by
  have c__law_least := ok__law_least (P := P) (w := w) (K := K) (mg := mg) (base := base) T
  have c__law_draw := ok__law_draw (P := P) (w := w) (K := K) (mg := mg) (base := base) T
  refine calD (k := 2) (N := N__law_sizes) (ps := ["_law_stream_here", "_law_most"]) T.g__law_sizes T.f__law_sizes (fun _ _ _ _ _ _ us hl => match us, hl with | [_, _], _ => rfl) sc__law_sizes len2 (fun cdv A outer s H vs Q E hr h => ?_)
  obtain ⟨x1, x2, rfl, h⟩ := h
  refine ⟨_, (pss_cons (ps_set (i := 2) sc__law_sizes.nd rfl (Or.inl rfl) (pe_op op_add pe_int (C8.pe_c c__law_draw hr (by decide) (by rfl) (pa_cons (pv 0) (pa_cons (pe_op op_sub (pv 1) pe_int) pa_nil)))))
    (pss_cons (ps_par (i := 3) (j := 4) rfl sc__law_sizes.nd rfl rfl (by decide) rfl rfl (pa_cons (pe_op op_add pe_int (C8.pe_c c__law_draw hr (by decide) (by rfl) (pa_cons (pv 0) (pa_cons (pe_op op_sub (pv 2) pe_int) pa_nil)))) (pa_cons (pe_op op_add pe_int (C8.pe_c c__law_draw hr (by decide) (by rfl) (pa_cons (pv 0) (pa_cons (pv 2) pa_nil)))) pa_nil)) (by rfl))
    (pss_cons (ps_set (i := 5) sc__law_sizes.nd rfl (Or.inl rfl) (pe_callB (call_min2 rfl) (by rfl) T.n_min (by decide +kernel) (pa_cons (pv 2) (pa_cons (pe_op op_add (pv 3) (pv 4)) pa_nil))))
    (pss_one (ps_ret (pe_tup (pa_cons (pv 2) (pa_cons (pv 3) (pa_cons (pv 4) (pa_cons (pe_op op_mul (C8.pe_c c__law_least hr (by decide) (by rfl) (pa_cons (pv 2) (pa_cons (pv 5) pa_nil))) (pe_op op_add pe_int (C8.pe_c c__law_draw hr (by decide) (by rfl) (pa_cons (pv 0) (pa_cons pe_int pa_nil))))) pa_nil)))))))))), ?_⟩
  obtain ⟨sa, rfl, rfl, hST, q⟩ := h
  walk_at "rd"
  refine ⟨hST, by decide, by decide, fun d H1 d0 d1 kp1 hST1 => ?_⟩
  obtain ⟨a, rfl⟩ := Int.eq_ofNat_of_zero_le d0
  walk_at "rd"
  refine ⟨hST1, by omega, by omega, fun d H2 d2 d3 kp2 hST2 => ?_⟩
  obtain ⟨b, rfl⟩ := Int.eq_ofNat_of_zero_le d2
  walk_at "rd"
  refine ⟨hST2, by omega, by omega, fun d H3 d4 d5 kp3 hST3 => ?_⟩
  obtain ⟨c, rfl⟩ := Int.eq_ofNat_of_zero_le d4
  walk_at "rd"
  refine ⟨2 + a, min (2 + a) (1 + b + (1 + c)), congrArg V.int (by omega), congrArg V.int (by split <;> omega), by omega, by omega, by omega, ?_⟩
  walk_at "rd"
  refine ⟨hST3, by decide, by decide, fun d H4 d6 d7 kp4 hST4 => ?_⟩
  obtain ⟨e, rfl⟩ := Int.eq_ofNat_of_zero_le d6
  walk_at "rd"
  refine ⟨.inr ⟨by omega, by omega⟩, ?_⟩
  refine ⟨by show 4 ≤ sizeLine; decide, fun p np => ?_⟩
  have kp : Kp [sa] H H4 := ((kp1.trans kp2).trans kp3).trans kp4
  refine q p (2 + a) (1 + b) (1 + c) (least (2 + a) (min (2 + a) (1 + b + (1 + c))) * (1 + e)) _ ⟨by omega, by omega, by omega, by omega, ⟨by omega, by omega, by omega, by omega, 1 + e, by omega, by omega, rfl⟩⟩ (kp.new (kp.free1 hST4 np)) (hST4.same (sNew np)) (kp.free1 hST4 np) ?_
  rw [upd_same]
  have e1 : (2 : Int) + (a : Int) = ((2 + a : Nat) : Int) := by omega
  have e2 : (1 : Int) + (b : Int) = ((1 + b : Nat) : Int) := by omega
  have e3 : (1 : Int) + (c : Int) = ((1 + c : Nat) : Int) := by omega
  have e4 : (1 : Int) + (e : Int) = ((1 + e : Nat) : Int) := by omega
  show some (HO.tup [.int (2 + (a : Int)), .int (1 + (b : Int)), .int (1 + (c : Int)), .int (((least (2 + a) (min (2 + a) (1 + b + (1 + c))) : Nat) : Int) * (1 + (e : Int)))]) = _
  rw [e1, e2, e3, e4, Int.natCast_mul]
end
end EF
/-! The changes that can be undone. -/
namespace EF
open PySem PySem.Spec PyProof.Rows L2
def und (g : List Int) (s : Int) : List Int := if s ∈ g then rmv g s else g ++ [s]
def OKh (n f : Nat) : List (Int × Int) → List Int → Prop
  | [], g => GG n f g
  | (s, _) :: l, g => GG n f g ∧ OKh n f l (und g s)
theorem OKh.gg {n f : Nat} {l : List (Int × Int)} {g : List Int} (h : OKh n f l g) : GG n f g := by
  cases l with
  | nil => exact h
  | cons x l => exact h.1
theorem GG.perm {n f : Nat} {g g' : List Int} (h : GG n f g) (p : g.Perm g') : GG n f g' := ⟨p.nodup_iff.mp h.nd, fun x hx => h.sub x (p.mem_iff.mpr hx), p.length_eq ▸ h.le⟩
theorem und_perm {g g' : List Int} {s : Int} (p : g.Perm g') : (und g s).Perm (und g' s) := by
  unfold und
  by_cases h : s ∈ g
  · rw [if_pos h, if_pos (p.mem_iff.mp h)]
    exact p.filter _
  · rw [if_neg h, if_neg (fun z => h (p.mem_iff.mpr z))]
    exact p.append_right _
theorem OKh.perm {n f : Nat} : ∀ {l : List (Int × Int)} {g g' : List Int}, OKh n f l g → g.Perm g' → OKh n f l g'
  | [], _, _, h, p => GG.perm h p
  | (s, _) :: l, _, _, h, p => ⟨h.1.perm p, OKh.perm h.2 (und_perm p)⟩
theorem rmv_not {g : List Int} {s : Int} (h : s ∉ g) : rmv g s = g := by
  unfold rmv
  rw [List.filter_eq_self]
  intro x hx
  simp only [Bool.not_eq_true', decide_eq_false_iff_not]
  intro e
  exact h (e ▸ hx)
theorem rmv_app {g : List Int} {s : Int} (h : s ∉ g) : rmv (g ++ [s]) s = g := by
  have e : rmv (g ++ [s]) s = rmv g s ++ rmv [s] s := List.filter_append ..
  have e2 : rmv [s] s = [] := by
    unfold rmv
    simp
  rw [e, e2, List.append_nil, rmv_not h]
theorem und_app {g : List Int} {s : Int} (h : s ∉ g) : und (g ++ [s]) s = g := by
  unfold und
  rw [if_pos (by simp), rmv_app h]
theorem rmv_perm {g : List Int} {s : Int} (nd : g.Nodup) (h : s ∈ g) : (rmv g s ++ [s]).Perm g := by
  induction g with
  | nil => cases h
  | cons a g ih =>
    have nd2 := List.nodup_cons.mp nd
    by_cases e : a = s
    · subst e
      have e1 : rmv (a :: g) a = rmv g a := by
        unfold rmv
        rw [List.filter_cons_of_neg (by simp)]
      rw [e1, rmv_not nd2.1]
      exact List.perm_append_singleton a g
    · have h2 : s ∈ g := by
        rcases List.mem_cons.mp h with h | h
        · exact absurd h.symm e
        · exact h
      have e1 : rmv (a :: g) s = a :: rmv g s := by
        unfold rmv
        rw [List.filter_cons_of_pos (by simp [e])]
      rw [e1]
      exact List.Perm.cons a (ih nd2.2 h2)
theorem und_rmv {g : List Int} {s : Int} : und (rmv g s) s = rmv g s ++ [s] := by
  unfold und
  rw [if_neg (by rw [mem_rmv]; intro z; exact z.2 rfl)]
theorem GG.rm {n f : Nat} {g : List Int} {s : Int} (h : GG n f g) : GG n f (rmv g s) := ⟨h.nd.filter _, fun x hx => h.sub x (List.mem_filter.mp hx).1, Nat.le_trans (List.length_filter_le ..) h.le⟩
theorem GG.app {n f : Nat} {g : List Int} {s : Int} (h : GG n f g) (h1 : s ∉ g) (h2 : 0 ≤ s) (h3 : s < n) (h4 : g.length < f) : GG n f (g ++ [s]) := by
  refine ⟨?_, fun x hx => ?_, ?_⟩
  · rw [List.nodup_append]
    refine ⟨h.nd, by simp, fun a ha b hb => ?_⟩
    rw [List.mem_singleton.mp hb]
    intro e
    exact h1 (e ▸ ha)
  · rcases List.mem_append.mp hx with hx | hx
    · exact h.sub x hx
    · rw [List.mem_singleton.mp hx]
      exact ⟨h2, h3⟩
  · rw [List.length_append]
    show _ + 1 ≤ _
    omega
theorem OKh.fail {n f : Nat} {dn : List (Int × Int)} {g : List Int} {s m : Int} (h : OKh n f dn.reverse g) (h1 : s ∉ g) (h2 : 0 ≤ s) (h3 : s < n) (h4 : g.length < f) : OKh n f (dn ++ [(s, m)]).reverse (g ++ [s]) := by
  rw [List.reverse_append]
  refine ⟨h.gg.app h1 h2 h3 h4, ?_⟩
  rw [und_app h1]
  exact h
theorem OKh.recover {n f : Nat} {dn : List (Int × Int)} {g : List Int} {s m : Int} (h : OKh n f dn.reverse g) (h1 : s ∈ g) : OKh n f (dn ++ [(s, m)]).reverse (rmv g s) := by
  rw [List.reverse_append]
  refine ⟨h.gg.rm, ?_⟩
  rw [und_rmv]
  exact h.perm (rmv_perm h.gg.nd h1).symm
theorem OKh.undo {n f : Nat} {dn : List (Int × Int)} {g : List Int} {s m : Int} (h : OKh n f (dn ++ [(s, m)]).reverse g) : OKh n f dn.reverse (und g s) := by
  rw [List.reverse_append] at h
  exact h.2
theorem Kp.fr {S : List Addr} {H H' : Hp} {q : Addr} (k : Kp S H H') (hs : ∀ b ∈ S, ∃ o, H' b = some o) (e : H' q = none) : H q = none := by
  cases c : H q with
  | none => rfl
  | some o =>
    by_cases m : q ∈ S
    · obtain ⟨o2, h2⟩ := hs q m
      rw [h2] at e
      cases e
    · rw [k q o m c] at e
      cases e
theorem oth_nil (n : Nat) : oth n [] = rng n := by
  unfold oth
  rw [List.filter_eq_self]
  intro x hx
  simp
end EF
namespace EF
open PySem PySem.Spec PyProof.Rows L2
local macro_rules | `(tactic| walk_at "rd") => `(tactic| repeat (first
  | refine ⟨_, rfl, ?_⟩ | refine ⟨rfl, ?_⟩ | refine ⟨_, _, rfl, ?_⟩ | refine ⟨_, _, rfl, rfl, ?_⟩ | refine ⟨_, _, _, rfl, ?_⟩ | refine ⟨_, _, _, rfl, rfl, rfl, ?_⟩ | refine ⟨_, _, _, _, rfl, ?_⟩ | refine ⟨_, _, _, _, rfl, rfl, rfl, rfl, ?_⟩ | refine ⟨_, _, _, _, _, rfl, ?_⟩))
section
variable {P : Program} {w : World} {K : PySem.W.Frag} {mg : Str → Option Value} {base : Heap}
/-- how the moves stand: the list of the gone at ga, of the moves at da -/
def MV (K : PySem.W.Frag) (H0 H : Hp) (sa : Addr) (k : CA) (n f r t : Nat) (da ga : Addr) (g : List Int) (dn : List (Int × Int)) : Prop :=
  Kp [sa, k.dd, k.dl] H0 H ∧ ST H sa ∧ Clu K H k n f r t g dn ∧ LI H ga g ∧ LI H da (dn.map (·.1)) ∧ H0 ga = none ∧ H0 da = none ∧ ga ≠ da ∧ OKh n f dn.reverse g
theorem st_dl {K : PySem.W.Frag} {H : Hp} {sa : Addr} {k : CA} {n f r t : Nat} {g : List Int} {dn : List (Int × Int)} (h : ST H sa) (c : Clu K H k n f r t g dn) : sa ≠ k.dl ∧ sa ≠ k.dd ∧ sa ≠ k.c := by
  obtain ⟨a, b, h⟩ := h
  obtain ⟨dx, ts, h1, h2, h3, h4⟩ := c
  refine ⟨fun e => ?_, fun e => ?_, fun e => ?_⟩
  · rw [e, h3] at h
    cases ts with
    | nil => cases h
    | cons x l => cases h
  · rw [e, h2] at h; cases h
  · rw [e, h1] at h; cases h
theorem Clu.kp1 {K : PySem.W.Frag} {H H' : Hp} {sa : Addr} {k : CA} {n f r t : Nat} {g : List Int} {dn : List (Int × Int)} (c : Clu K H k n f r t g dn) (h : ST H sa) (kp : Kp [sa] H H') : Clu K H' k n f r t g dn := by
  obtain ⟨n1, n2, n3⟩ := st_dl h c
  obtain ⟨a, b, h⟩ := h
  obtain ⟨dx, ts, h1, h2, h3, h4⟩ := c
  have up : ∀ x o, x ≠ sa → H x = some o → H' x = some o := fun x o n e => kp x o (fun z => n (List.mem_singleton.mp z)) e
  exact ⟨dx, ts, up _ _ n3.symm h1, up _ _ n2.symm h2, up _ _ n1.symm h3, h4.up fun x xs e => up _ _ (fun z => by rw [z, h] at e; cases e) e⟩
theorem Clu.putL {K : PySem.W.Frag} {H : Hp} {D : Addr} {k : CA} {n f r t : Nat} {g : List Int} {dn : List (Int × Int)} {xs ys : List V} (c : Clu K H k n f r t g dn) (h : H D = some (.lst xs)) (nd : D ≠ k.dl) : Clu K (upd H D (.lst ys)) k n f r t g dn := by
  obtain ⟨dx, ts, h1, h2, h3, h4⟩ := c
  have up : ∀ x o, x ≠ D → H x = some o → (upd H D (.lst ys)) x = some o := fun x o n e => (upd_ne n).trans e
  exact ⟨dx, ts, up _ _ (fun z => by rw [z, h] at h1; cases h1) h1, up _ _ (fun z => by rw [z, h] at h2; cases h2) h2, up _ _ nd.symm h3, h4.up fun x xs e => up _ _ (fun z => by rw [z, h] at e; cases e) e⟩
theorem ints_nil {K : PySem.W.Frag} {H : Hp} {a z : Addr} {g : List Int} (h : LI H a g) (nz : H z = none) : ∃ d e, Dp K (upd H z (.lst [])) (.ref a) d ∧ Dp K (upd H z (.lst [])) (.ref z) e ∧ SeqAt.shaped d = true ∧ SeqAt.shaped e = true ∧ PyData.eqv d e = decide (g = []) := by
  refine ⟨.list (g.map PyData.int), .list [], .lst (SqL.of (sNew nz _ _ h)) (dp_ints _), .lst (SqL.of upd_same) .nil, (shp_list (k := 0) fun d hd => ?_).ok (by decide), shp_nil.ok (by decide), by cases g <;> rfl⟩
  obtain ⟨i, _, rfl⟩ := List.mem_map.mp hd
  exact shp_int 0 i
theorem rNeD_nil {K : PySem.W.Frag} {H : Hp} {a z : Addr} {g : List Int} {Q : VK} (h : LI H a g) (nz : H z = none) (q : Q (.bl (!decide (g = []))) (upd H z (.lst []))) : rNeD K (.ref a) (.ref z) (upd H z (.lst [])) Q := by
  obtain ⟨d, e, h1, h2, h3, h4, h5⟩ := ints_nil (K := K) h nz
  exact ⟨d, e, h1, h2, h3, h4, by rw [h5]; exact q⟩
theorem ne_nil_of {α : Type} {g : List α} {b : Bool} [Decidable (g = [])] (e : b = !decide (g = [])) (h : b = true) : g ≠ [] := fun z => by
  rw [e, decide_eq_true z] at h
  exact Bool.noConfusion h
theorem nil_of {α : Type} {g : List α} [Decidable (g = [])] (h : ¬ (!decide (g = [])) = true) : g = [] := by
  by_cases e : g = []
  · exact e
  · rw [decide_eq_false e] at h
    exact absurd rfl h
theorem MV.step {K : PySem.W.Frag} {H H6 : Hp} {sa D : Addr} {k : CA} {n f r t : Nat} {g : List Int} {dn : List (Int × Int)} (kp : Kp [sa, k.dd, k.dl] H H6) (st : ST H6 sa) (c : Clu K H6 k n f r t g dn) (hD : LI H6 D (dn.map (·.1))) (nD : H D = none) (ok : OKh n f dn.reverse g) (H7 : Hp) (gx : Addr) (ng : H6 gx = none) (sm : Same H6 H7) (hg : LI H7 gx g) : MV K H H7 sa k n f r t D gx g dn := by
  refine ⟨fun b o m e => sm _ _ (kp b o m e), st.same sm, c.same sm, hg, sm _ _ hD, kp.fr (fun b hb => ?_) ng, nD, (fun e => by rw [e, hD] at ng; cases ng), ok⟩
  obtain ⟨u, v, h⟩ := st
  obtain ⟨dx, ts, h1, h2, h3, h4⟩ := c
  simp only [List.mem_cons, List.not_mem_nil, or_false] at hb
  rcases hb with rfl | rfl | rfl
  · exact ⟨_, h⟩
  · exact ⟨_, h2⟩
  · exact ⟨_, h3⟩
theorem at_last {xs : List V} {x : V} : atI (xs ++ [x]) (-1) = some x := atI_last xs x
theorem no2 {a b c : Addr} (h1 : a ≠ b) (h2 : a ≠ c) : a ∉ [b, c] := by
  intro h
  simp only [List.mem_cons, List.not_mem_nil, or_false] at h
  rcases h with h | h
  · exact h1 h
  · exact h2 h
theorem rmv_snoc {g : List Int} {s y : Int} {i : Nat} (h : g[i]? = some y) : rmv (g.take (i + 1)) s = rmv (g.take i) s ++ (if (!decide (y = s)) = true then [y] else []) := by
  unfold rmv
  exact filt_snoc (p := fun x => !decide (x = s)) h
abbrev sp__law_moves (K : PySem.W.Frag) : Sp := sp5 fun x y z u v H Q => ∃ (sa : Addr) (k : CA) (n f r t m : Nat), x = .ref sa ∧ y = .ref k.c ∧ z = .int n ∧ u = .int f ∧ v = .int m ∧ ST H sa ∧ Clu K H k n f r t [] [] ∧ Good n f r t ∧ m ≤ 16 ∧
  ∀ q H' da ga g dn, H' q = some (.tup [.ref ga, .ref da]) → MV K H H' sa k n f r t da ga g dn → dn.length ≤ 16 → Q (.ref q) H'
abbrev N__law_moves : List Str := ["_law_stream_here", "_law_cluster", "_law_n", "_law_down", "_law_turns", "_law_gone", "_law_done", "_law_turn", "_law_way", "_law_server", "_law_one"]
theorem sc__law_moves : FnScope N__law_moves ["_law_stream_here", "_law_cluster", "_law_n", "_law_down", "_law_turns"] (defScope s__law_moves) := ⟨rfl, rfl, rfl, by decide +kernel, rfl, by decide +kernel, by decide +kernel⟩
theorem ok__law_moves (T : Tx K mg) : C8.Cal P w K mg base 5 "_law_moves" (sp__law_moves K) [] := by
  have m_undo := ok_C_undo (P := P) (w := w) (K := K) (mg := mg) (base := base) T
  have m_recover := ok_C_recover (P := P) (w := w) (K := K) (mg := mg) (base := base) T
  have c__law_pick := ok__law_pick (P := P) (w := w) (K := K) (mg := mg) (base := base) T
  have m_fail := ok_C_fail (P := P) (w := w) (K := K) (mg := mg) (base := base) T
  have c__law_up := ok__law_up (P := P) (w := w) (K := K) (mg := mg) (base := base) T
  have c__law_draw := ok__law_draw (P := P) (w := w) (K := K) (mg := mg) (base := base) T
  have m_live := ok_C_live (P := P) (w := w) (K := K) (mg := mg) (base := base) T
  refine calD (k := 4) (N := N__law_moves) (ps := ["_law_stream_here", "_law_cluster", "_law_n", "_law_down", "_law_turns"]) T.g__law_moves T.f__law_moves (fun _ _ _ _ _ _ us hl => match us, hl with | [_, _, _, _, _], _ => rfl) sc__law_moves len5 (fun cdv A outer s H vs Q E hr h => ?_)
  obtain ⟨x1, x2, x3, x4, x5, rfl, h⟩ := h
  refine ⟨_, (pss_cons (ps_asg (pe_tup (pa_cons (pe_lc (own := [("_law_one", 10)]) (g := gName 10) rfl sc__law_moves.nd (pi_range1 (by rfl) T.n_range (pa_cons (pv 2) pa_nil)) (blkOk_by (own := [("_law_one", 10)]) (N := N__law_moves) (sc := defScope s__law_moves) (by decide +kernel)) (fun _ _ _ _ _ => pg_name (i := 10) sc__law_moves.nd rfl (Or.inl rfl)) (fun _ _ _ _ _ => pts_one (pt_cmpR (op_niK (K := K) rfl) (pv 10) (C8.pe_mt0 m_live hr (by decide) (pv 1)) (by rfl))) (fun _ _ _ _ _ => (pv 10))) (pa_cons (pe_lst pa_nil) pa_nil))) (pg_tup rfl (pgs_cons (pg_name (i := 5) sc__law_moves.nd rfl (Or.inl rfl)) (pgs_cons (pg_name (i := 6) sc__law_moves.nd rfl (Or.inr rfl)) pgs_nil))))
    (pss_cons (ps_for PassesOwn.never rfl (pi_range1 (by rfl) T.n_range (pa_cons (pv 4) pa_nil)) (pg_name (i := 7) sc__law_moves.nd rfl (Or.inl rfl))
    (pss_cons (ps_set (i := 8) sc__law_moves.nd rfl (Or.inl rfl) (C8.pe_c c__law_draw hr (by decide) (by rfl) (pa_cons (pv 0) (pa_cons pe_int pa_nil))))
      (pss_one (ps_if (PW.pt (pw_and (pt_cmpR op_eq (pv 8) pe_int (nomark _)) (pw_and1 (pt_cmpR (op_neD hr.units) (pv 6) (pe_lst pa_nil) (nomark _)))))
      (pss_cons (ps_set (i := 9) sc__law_moves.nd rfl (Or.inr rfl) (pe_bm0 PySem.F.plainAttrs_list PySem.F.slot_list_pop PySem.F.type_list_pop mt_pop (pv 6)))
        (pss_cons (ps_expr (C8.pe_mt0 m_undo hr (by decide) (pv 1)))
        (pss_one (ps_set (i := 5) sc__law_moves.nd rfl (Or.inl rfl) (pe_ifExp (pt_cmpR (op_inK (K := K) rfl) (pv 9) (pv 5) (by rfl)) (pe_lc (own := [("_law_one", 10)]) (g := gName 10) rfl sc__law_moves.nd (pi_list (pv 5)) (blkOk_by (own := [("_law_one", 10)]) (N := N__law_moves) (sc := defScope s__law_moves) (by decide +kernel)) (fun _ _ _ _ _ => pg_name (i := 10) sc__law_moves.nd rfl (Or.inl rfl)) (fun _ _ _ _ _ => pts_one (pt_cmpR op_ne (pv 10) (pv 9) (nomark _))) (fun _ _ _ _ _ => (pv 10))) (pe_op op_cat (pv 5) (pe_lst (pa_cons (pv 9) pa_nil))))))))
      (pss_one (ps_if (PW.pt (pw_and (pt_cmpR (op_neD hr.units) (pv 5) (pe_lst pa_nil) (nomark _)) (pw_and1 (PW.pt (pw_or (pt_cmpR op_eq (pv 8) pe_int (nomark _)) (pw_or1 (pt_cmpR op_eq (pe_callB call_len_seq (by rfl) T.n_len PySem.boot_len (pa_cons (pv 5) pa_nil)) (pv 3) (nomark _))))))))
        (pss_cons (ps_expr (pe_bm PySem.F.plainAttrs_list PySem.F.slot_list_append PySem.F.type_list_append mt_append (pv 6) (pa_cons (C8.pe_c c__law_pick hr (by decide) (by rfl) (pa_cons (pv 0) (pa_cons (pv 5) pa_nil))) pa_nil)))
          (pss_cons (ps_expr (C8.pe_mt m_recover hr (by decide) (pv 1) (pa_cons (pe_ix (ix_listK (K := K) rfl) (pv 6) (pe_un un_neg pe_int) (fun _ _ => rfl)) pa_nil)))
          (pss_one (ps_setLc (i := 5) (own := [("_law_one", 10)]) (g := gName 10) rfl sc__law_moves.nd rfl rfl (sw_true rfl rfl rfl (by decide +kernel)) (pi_list (pv 5)) (blkOk_by (own := [("_law_one", 10)]) (N := N__law_moves) (sc := defScope s__law_moves) (by decide +kernel)) (fun _ _ _ _ _ => pg_name (i := 10) sc__law_moves.nd rfl (Or.inl rfl)) (fun _ _ _ _ _ => pts_one (pt_cmpR op_ne (pv 10) (pe_ix (ix_listK (K := K) rfl) (pv 6) (pe_un un_neg pe_int) (fun _ _ => rfl)) (nomark _))) (fun _ _ _ _ _ => (pv 10))))))
        (pss_cons (ps_expr (pe_bm PySem.F.plainAttrs_list PySem.F.slot_list_append PySem.F.type_list_append mt_append (pv 6) (pa_cons (C8.pe_c c__law_pick hr (by decide) (by rfl) (pa_cons (pv 0) (pa_cons (C8.pe_c c__law_up hr (by decide) (by rfl) (pa_cons (pv 2) (pa_cons (pv 5) pa_nil))) pa_nil))) pa_nil)))
          (pss_cons (ps_expr (C8.pe_mt m_fail hr (by decide) (pv 1) (pa_cons (pe_ix (ix_listK (K := K) rfl) (pv 6) (pe_un un_neg pe_int) (fun _ _ => rfl)) pa_nil)))
          (pss_one (ps_set (i := 5) sc__law_moves.nd rfl (Or.inl rfl) (pe_op op_cat (pv 5) (pe_lst (pa_cons (pe_ix (ix_listK (K := K) rfl) (pv 6) (pe_un un_neg pe_int) (fun _ _ => rfl)) pa_nil)))))))))))))
    (pss_one (ps_ret (pe_tup (pa_cons (pv 5) (pa_cons (pv 6) pa_nil))))))), ?_⟩
  obtain ⟨sa, k, n, f, r, t, m, rfl, rfl, rfl, rfl, rfl, hST, hC, hG, hm, q⟩ := h
  have g6 := hG.gt.n6
  have g2 := hG.gt.n2
  have fn := hG.fn
  have f1 := hG.f1
  have ne1 : ∀ {b : Addr}, H b = none → b ≠ sa ∧ b ≠ k.dd ∧ b ≠ k.dl ∧ b ≠ k.c := by
    intro b e
    obtain ⟨u0, v0, hS0⟩ := hST
    obtain ⟨dx, ts, h1, h2, h3, h4⟩ := hC
    exact ⟨(fun z => by rw [z, hS0] at e; cases e), (fun z => by rw [z, h2] at e; cases e), (fun z => by rw [z, h3] at e; cases e), (fun z => by rw [z, h1] at e; cases e)⟩
  walk_at "rd"
  refine ⟨by omega, by omega, fun G nG => lc_range (lo := 0) (n := ((n : Int)).toNat) (fun i H' => Same H H' ∧ LI H' G []) ⟨sNew nG, upd_same⟩ ?_ ?_⟩
  · rintro i H' hi ⟨sm, hD⟩
    have hi2 : i < n := by omega
    refine ⟨rfl, ?_⟩
    rw [Int.zero_add]
    obtain ⟨dx, ts, h1, h2, h3, h4⟩ := hC.same sm
    refine ⟨_, rfl, _, rfl, _, _, _, rfl, h1, fl_no (by decide +kernel), ?_⟩
    refine ⟨_, rfl, k, n, f, r, t, [], [], rfl, hC.same sm, g6, fun b H2 sm2 nb hb => ?_⟩
    refine ⟨_, _, oth n [], rfl, rfl, .inr (SqT.of hb), _, rfl, ite2 (fun c => ?_) (fun c => ?_)⟩
    · have e : ((i : Nat) : Int) ∈ oth n [] := mem_oth.mpr ⟨⟨by omega, by omega⟩, by simp⟩
      rw [decide_eq_true e] at c
      exact Bool.noConfusion c
    · exact ⟨sm.trans sm2, sm2 _ _ hD⟩
  · rintro H1 ⟨sm1, hG1⟩
    walk_at "rd"
    refine ⟨Nat.zero_le _, fun D nD => ?_⟩
    have s2 := sNew (o := .lst []) nD
    walk_at "rd"
    refine ⟨by show 2 ≤ sizeLine; decide, fun p np => ?_⟩
    have s3 := sNew (o := .tup [.ref G, .ref D]) np
    refine ⟨p, _, rfl, SqT.of upd_same, rfl, ?_⟩
    walk_at "rd"
    have sm3 := (sm1.trans s2).trans s3
    have nGD : G ≠ D := fun e => by rw [← e, hG1] at nD; cases nD
    refine ⟨by omega, by omega, for_range (fun i σ H' => ∃ (ga : Addr) (v7 v8 v9 v10 : Option V) (g : List Int) (dn : List (Int × Int)), σ = [some (.ref sa), some (.ref k.c), some (.int n), some (.int f), some (.int m), some (.ref ga), some (.ref D), v7, v8, v9, v10] ∧ MV K H H' sa k n f r t D ga g dn ∧ dn.length ≤ i) ⟨G, none, none, none, none, [], [], rfl, ⟨Kp.of sm3, hST.same sm3, hC.same sm3, s3 _ _ (s2 _ _ hG1), s3 _ _ upd_same, nG, sm1.free nD, nGD, .nil, by simp, Nat.zero_le _⟩, Nat.zero_le _⟩ ?_ ?_⟩
    · rintro i σ H2 hi ⟨ga, v7, v8, v9, v10, g, dn, rfl, mv, hdl⟩
      obtain ⟨kp, hST2, hC2, hga, hda, nga, nda, nad, ok⟩ := id mv
      walk_at "rd"
      refine ⟨hST2, by decide, by decide, fun d H3 d0 d1 kp3 hST3 => ?_⟩
      walk_at "rd"
      have up1 : ∀ b o, b ≠ sa → H2 b = some o → H3 b = some o := fun b o n e => kp3 b o (fun z => n (List.mem_singleton.mp z)) e
      have nga1 := ne1 nga
      have nda1 := ne1 nda
      have hC3 := hC2.kp1 hST2 kp3
      have hga3 : LI H3 ga g := up1 _ _ nga1.1 hga
      have hda3 : LI H3 D (dn.map (·.1)) := up1 _ _ nda1.1 hda
      have kpA : Kp [sa, k.dd, k.dl] H H3 := kp.trans (kp3.mono fun b hb => by rw [List.mem_singleton.mp hb]; exact List.mem_cons_self ..)
      refine ite2 (fun c => ?_) (fun c => ?_)
      · walk_at "rd"
        refine ⟨Nat.zero_le _, fun z nz => ?_⟩
        have sz := sNew (o := .lst []) nz
        refine rNeD_nil hda3 nz ?_
        refine ⟨_, rfl, ?_⟩
        refine ite2 (fun c2 => ?_) (fun c2 => ?_)
        · have c3 : dn ≠ [] := fun e => by
            rw [e] at c2
            exact Bool.noConfusion c2
          obtain ⟨dn0, ⟨s, mm⟩, rfl⟩ : ∃ l x, dn = l ++ [x] := ⟨_, _, (List.dropLast_concat_getLast c3).symm⟩
          have hC4 := hC3.same sz
          have hda4 : (upd H3 z (.lst [])) D = some (.lst ((dn0.map (·.1)).map V.int ++ [V.int s])) := by
            have h9 := sz _ _ hda3
            rw [List.map_append, List.map_append] at h9
            exact h9
          have hga4 := sz _ _ hga3
          walk_at "rd"
          refine ⟨.inl ⟨rfl, _, SqL.of hda4⟩, ?_⟩
          refine ⟨D, _, .int s, rfl, rfl, hda4, ?_, ?_⟩
          · simp
          rw [List.dropLast_concat]
          have hC5 := hC4.putL (ys := (dn0.map (·.1)).map V.int) hda4 nda1.2.2.1
          have hga5 : LI (upd (upd H3 z (.lst [])) D (.lst ((dn0.map (·.1)).map V.int))) ga g := (upd_ne nad).trans hga4
          obtain ⟨dx, ts, h1, h2, h3, h4⟩ := id hC5
          walk_at "rd"
          refine ⟨_, _, _, rfl, h1, fl_no (by decide +kernel), ?_⟩
          walk_at "rd"
          refine ⟨k, n, f, r, t, g, dn0, s, mm, rfl, hC5, by have := ok.gg.le; omega, fun H6 kp6 hC6 => ?_⟩
          have nsd := st_dl hST3 hC3
          have hga6 : LI H6 ga g := kp6 _ _ (no2 nga1.2.1 nga1.2.2.1) hga5
          have hD6 : LI H6 D (dn0.map (·.1)) := kp6 _ _ (no2 nda1.2.1 nda1.2.2.1) upd_same
          have hST6 : ST H6 sa := ST.kp (H := upd (upd H3 z (.lst [])) D (.lst ((dn0.map (·.1)).map V.int))) (let ⟨u, v, h⟩ := hST3; ⟨u, v, (upd_ne nda1.1.symm).trans (sz _ _ h)⟩) kp6 (no2 nsd.2.1 nsd.1)
          have kp7 : Kp [sa, k.dd, k.dl] H H6 := fun b o m e => kp6 b o (fun q => m (List.mem_cons_of_mem _ q)) ((upd_ne (ne_of_none e nda)).trans (sz _ _ (kpA b o m e)))
          have fin := MV.step kp7 hST6 hC6 hD6 nda ok.undo
          walk_at "rd"
          refine ⟨_, _, g, rfl, rfl, .inl (SqL.of hga6), _, rfl, ite2 (fun c => ?_) (fun c => ?_)⟩
          · have c4 := of_decide_eq_true c
            rw [if_pos c4] at fin
            walk_at "rd"
            refine ⟨⟨_, SqL.of hga6⟩, fun G2 nG2 => lc_list (K := K) (a := ga) (xs := g.map V.int) (fun i H' => Same H6 H' ∧ LI H' G2 (rmv (g.take i) s)) ⟨sNew nG2, upd_same⟩ (fun i H' _ h => h.1.seq (SqL.of hga6)) ?_ ?_⟩
            · rintro i x H' hi ⟨sm, hD⟩
              obtain ⟨y, hy, rfl⟩ := map_atF hi
              have ef := rmv_snoc (s := s) hy
              refine ⟨rfl, ?_⟩
              walk_at "rd"
              by_cases e : y = s
              · rw [if_neg (by simp [e]), List.append_nil] at ef
                refine ifF (by rw [e]; simp) ⟨sm, ?_⟩
                show H' G2 = _
                rw [ef]
                exact hD
              · rw [if_pos (by simp [e])] at ef
                refine ifT (by simp [e]) ?_
                refine ⟨_, rfl, _, hD, ?_, sPut sm nG2, ?_⟩
                · rw [List.length_map]
                  refine small1000 (Nat.le_trans (List.length_filter_le ..) ?_)
                  rw [List.length_take]
                  have := ok.gg.le
                  omega
                · show upd H' G2 _ G2 = _
                  rw [upd_same, ef, List.map_append]
                  rfl
            · rintro H7 ⟨sm, hD⟩
              rw [List.length_map, List.take_length] at hD
              walk_at "rd"
              exact ⟨G2, _, _, _, _, _, _, rfl, fin H7 G2 nG2 sm hD, by simp at hdl; omega⟩
          · have c4 : ¬ s ∈ g := fun q => c (decide_eq_true q)
            rw [if_neg c4] at fin
            walk_at "rd"
            refine ⟨by show 1 ≤ sizeLine; decide, fun b8 nb8 => ?_⟩
            have s8 := sNew (o := .lst [.int s]) nb8
            refine ⟨_, _, _, _, rfl, rfl, s8 _ _ hga6, upd_same, by rw [List.length_map]; exact Nat.le_of_lt (small1000 (by have := ok.gg.le; show _ + 1 ≤ 1000; omega)), fun c8 nc8 => ?_⟩
            walk_at "rd"
            exact ⟨c8, _, _, _, _, _, _, rfl, fin _ c8 (s8.free nc8) (s8.trans (sNew nc8)) (by show upd _ c8 _ c8 = _; rw [upd_same, List.map_append]; rfl), by simp at hdl; omega⟩
        · have hgx := sz _ _ hga3
          have hdx := sz _ _ hda3
          walk_at "rd"
          refine ⟨Nat.zero_le _, fun z2 nz2 => ?_⟩
          have sz2 := sNew (o := .lst []) nz2
          refine rNeD_nil hgx nz2 ?_
          refine ⟨_, rfl, ?_⟩
          have hgy : LI _ ga g := sz2 _ _ hgx
          have hdy : LI _ D (dn.map (·.1)) := sz2 _ _ hdx
          have sty := (hST3.same sz).same sz2
          have hCy := (hC3.same sz).same sz2
          have kpy : Kp [sa, k.dd, k.dl] H _ := fun b o m e => sz2 _ _ (sz _ _ (kpA b o m e))
          refine ite2 (fun c5 => ?_) (fun c5 => ?_)
          · have gne : g ≠ [] := fun e => by
              rw [e] at c5
              exact Bool.noConfusion c5
            walk_at "rd"
            refine ite2 (fun c6 => ?_) (fun c6 => ?_)
            · have gp := List.length_pos_iff.mpr gne
              have gle := ok.gg.le
              walk_at "rd"
              refine ⟨.inl ⟨rfl, _, SqL.of hdy⟩, ?_⟩
              walk_at "rd"
              refine ⟨sa, ga, _, rfl, rfl, sty, .inl hgy, nga1.1, by rw [List.length_map]; omega, by rw [List.length_map]; omega, fun v H8 hv kp8 hST8 => ?_⟩
              obtain ⟨s, hs, rfl⟩ := List.mem_map.mp hv
              have up8 : ∀ b o, b ≠ sa → _ = some o → H8 b = some o := fun b o n e => kp8 b o (fun z => n (List.mem_singleton.mp z)) e
              have hC8 := hCy.kp1 sty kp8
              have hg8 : LI H8 ga g := up8 _ _ nga1.1 hgy
              have hd8 : LI H8 D (dn.map (·.1)) := up8 _ _ nda1.1 hdy
              walk_at "rd"
              refine ⟨_, _, _, rfl, rfl, hd8, by rw [List.length_map, List.length_map]; exact small1000 (by omega), ?_⟩
              have hC9 := hC8.putL (ys := (dn.map (·.1)).map V.int ++ [V.int s]) hd8 nda1.2.2.1
              have hg9 : LI (upd H8 D (.lst ((dn.map (·.1)).map V.int ++ [V.int s]))) ga g := (upd_ne nad).trans hg8
              have hd9 : (upd H8 D (.lst ((dn.map (·.1)).map V.int ++ [V.int s]))) D = some (.lst ((dn.map (·.1)).map V.int ++ [V.int s])) := upd_same
              have hST9 : ST (upd H8 D (.lst ((dn.map (·.1)).map V.int ++ [V.int s]))) sa := let ⟨u, v, h⟩ := hST8; ⟨u, v, (upd_ne nda1.1.symm).trans h⟩
              have kp9 : Kp [sa, k.dd, k.dl] H (upd H8 D (.lst ((dn.map (·.1)).map V.int ++ [V.int s]))) := fun b o m e => (upd_ne (ne_of_none e nda)).trans (up8 _ _ (fun z => m (by rw [z]; exact List.mem_cons_self ..)) (kpy b o m e))
              obtain ⟨dx, ts, h1, h2, h3, h4⟩ := id hC9
              have nsd := st_dl hST9 hC9
              walk_at "rd"
              refine ⟨_, _, _, rfl, h1, fl_no (by decide +kernel), ?_⟩
              walk_at "rd"
              refine ⟨D, _, -1, _, rfl, rfl, SqL.of hd9, at_last, ?_⟩
              walk_at "rd"

              refine ⟨k, n, f, r, t, g, dn, s, rfl, rfl, hC9, hG, ok.gg, hs, by omega, fun H10 kp10 hC10 => ?_⟩
              have hd10 : LI H10 D ((dn ++ [(s, ((ldN t r (oth n (rmv g s)).length : Nat) : Int))]).map (·.1)) := by
                have h9 := kp10 _ _ (no2 nda1.2.1 nda1.2.2.1) hd9
                rw [List.map_append]
                show H10 D = some (.lst ((dn.map (·.1) ++ [s]).map V.int))
                rw [List.map_append]
                exact h9
              have hd10b := kp10 _ _ (no2 nda1.2.1 nda1.2.2.1) hd9
              have hg10 : LI H10 ga g := kp10 _ _ (no2 nga1.2.1 nga1.2.2.1) hg9
              have fin := MV.step (fun b o m e => kp10 b o (fun q => m (List.mem_cons_of_mem _ q)) (kp9 b o m e)) (hST9.kp kp10 (no2 nsd.2.1 nsd.1)) hC10 hd10 nda (ok.recover hs)
              walk_at "rd"
              refine ⟨⟨_, SqL.of hg10⟩, fun G2 nG2 => lc_list (K := K) (a := ga) (xs := g.map V.int) (fun i H' => Same H10 H' ∧ LI H' G2 (rmv (g.take i) s)) ⟨sNew nG2, upd_same⟩ (fun i H' _ h => h.1.seq (SqL.of hg10)) ?_ ?_⟩
              · rintro i x H' hi ⟨sm, hD⟩
                obtain ⟨y, hy, rfl⟩ := map_atF hi
                have ef := rmv_snoc (s := s) hy
                refine ⟨rfl, ?_⟩
                walk_at "rd"
                refine ⟨D, _, -1, _, rfl, rfl, SqL.of (sm _ _ hd10b), at_last, ?_⟩
                walk_at "rd"
                by_cases e : y = s
                · rw [if_neg (by simp [e]), List.append_nil] at ef
                  refine ifF (by rw [e]; simp) ⟨sm, ?_⟩
                  show H' G2 = _
                  rw [ef]
                  exact hD
                · rw [if_pos (by simp [e])] at ef
                  refine ifT (by simp [e]) ?_
                  refine ⟨_, rfl, _, hD, ?_, sPut sm nG2, ?_⟩
                  · rw [List.length_map]
                    refine small1000 (Nat.le_trans (List.length_filter_le ..) ?_)
                    rw [List.length_take]
                    omega
                  · show upd H' G2 _ G2 = _
                    rw [upd_same, ef, List.map_append]
                    rfl
              · rintro H11 ⟨sm, hD⟩
                rw [List.length_map, List.take_length] at hD
                walk_at "rd"
                exact ⟨G2, _, _, _, _, _, _, rfl, fin H11 G2 nG2 sm hD, by rw [List.length_append]; show _ + 1 ≤ _; omega⟩
            · walk_at "rd"
              refine ⟨ga, _, rfl, .inl (SqL.of hgy), ?_⟩
              rw [List.length_map]
              walk_at "rd"
              refine ite2 (fun c7 => ?_) (fun c7 => ?_)
              · have gp := List.length_pos_iff.mpr gne
                have gle := ok.gg.le
                walk_at "rd"
                refine ⟨.inl ⟨rfl, _, SqL.of hdy⟩, ?_⟩
                walk_at "rd"
                refine ⟨sa, ga, _, rfl, rfl, sty, .inl hgy, nga1.1, by rw [List.length_map]; omega, by rw [List.length_map]; omega, fun v H8 hv kp8 hST8 => ?_⟩
                obtain ⟨s, hs, rfl⟩ := List.mem_map.mp hv
                have up8 : ∀ b o, b ≠ sa → _ = some o → H8 b = some o := fun b o n e => kp8 b o (fun z => n (List.mem_singleton.mp z)) e
                have hC8 := hCy.kp1 sty kp8
                have hg8 : LI H8 ga g := up8 _ _ nga1.1 hgy
                have hd8 : LI H8 D (dn.map (·.1)) := up8 _ _ nda1.1 hdy
                walk_at "rd"
                refine ⟨_, _, _, rfl, rfl, hd8, by rw [List.length_map, List.length_map]; exact small1000 (by omega), ?_⟩
                have hC9 := hC8.putL (ys := (dn.map (·.1)).map V.int ++ [V.int s]) hd8 nda1.2.2.1
                have hg9 : LI (upd H8 D (.lst ((dn.map (·.1)).map V.int ++ [V.int s]))) ga g := (upd_ne nad).trans hg8
                have hd9 : (upd H8 D (.lst ((dn.map (·.1)).map V.int ++ [V.int s]))) D = some (.lst ((dn.map (·.1)).map V.int ++ [V.int s])) := upd_same
                have hST9 : ST (upd H8 D (.lst ((dn.map (·.1)).map V.int ++ [V.int s]))) sa := let ⟨u, v, h⟩ := hST8; ⟨u, v, (upd_ne nda1.1.symm).trans h⟩
                have kp9 : Kp [sa, k.dd, k.dl] H (upd H8 D (.lst ((dn.map (·.1)).map V.int ++ [V.int s]))) := fun b o m e => (upd_ne (ne_of_none e nda)).trans (up8 _ _ (fun z => m (by rw [z]; exact List.mem_cons_self ..)) (kpy b o m e))
                obtain ⟨dx, ts, h1, h2, h3, h4⟩ := id hC9
                have nsd := st_dl hST9 hC9
                walk_at "rd"
                refine ⟨_, _, _, rfl, h1, fl_no (by decide +kernel), ?_⟩
                walk_at "rd"
                refine ⟨D, _, -1, _, rfl, rfl, SqL.of hd9, at_last, ?_⟩
                walk_at "rd"

                refine ⟨k, n, f, r, t, g, dn, s, rfl, rfl, hC9, hG, ok.gg, hs, by omega, fun H10 kp10 hC10 => ?_⟩
                have hd10 : LI H10 D ((dn ++ [(s, ((ldN t r (oth n (rmv g s)).length : Nat) : Int))]).map (·.1)) := by
                  have h9 := kp10 _ _ (no2 nda1.2.1 nda1.2.2.1) hd9
                  rw [List.map_append]
                  show H10 D = some (.lst ((dn.map (·.1) ++ [s]).map V.int))
                  rw [List.map_append]
                  exact h9
                have hd10b := kp10 _ _ (no2 nda1.2.1 nda1.2.2.1) hd9
                have hg10 : LI H10 ga g := kp10 _ _ (no2 nga1.2.1 nga1.2.2.1) hg9
                have fin := MV.step (fun b o m e => kp10 b o (fun q => m (List.mem_cons_of_mem _ q)) (kp9 b o m e)) (hST9.kp kp10 (no2 nsd.2.1 nsd.1)) hC10 hd10 nda (ok.recover hs)
                walk_at "rd"
                refine ⟨⟨_, SqL.of hg10⟩, fun G2 nG2 => lc_list (K := K) (a := ga) (xs := g.map V.int) (fun i H' => Same H10 H' ∧ LI H' G2 (rmv (g.take i) s)) ⟨sNew nG2, upd_same⟩ (fun i H' _ h => h.1.seq (SqL.of hg10)) ?_ ?_⟩
                · rintro i x H' hi ⟨sm, hD⟩
                  obtain ⟨y, hy, rfl⟩ := map_atF hi
                  have ef := rmv_snoc (s := s) hy
                  refine ⟨rfl, ?_⟩
                  walk_at "rd"
                  refine ⟨D, _, -1, _, rfl, rfl, SqL.of (sm _ _ hd10b), at_last, ?_⟩
                  walk_at "rd"
                  by_cases e : y = s
                  · rw [if_neg (by simp [e]), List.append_nil] at ef
                    refine ifF (by rw [e]; simp) ⟨sm, ?_⟩
                    show H' G2 = _
                    rw [ef]
                    exact hD
                  · rw [if_pos (by simp [e])] at ef
                    refine ifT (by simp [e]) ?_
                    refine ⟨_, rfl, _, hD, ?_, sPut sm nG2, ?_⟩
                    · rw [List.length_map]
                      refine small1000 (Nat.le_trans (List.length_filter_le ..) ?_)
                      rw [List.length_take]
                      omega
                    · show upd H' G2 _ G2 = _
                      rw [upd_same, ef, List.map_append]
                      rfl
                · rintro H11 ⟨sm, hD⟩
                  rw [List.length_map, List.take_length] at hD
                  walk_at "rd"
                  exact ⟨G2, _, _, _, _, _, _, rfl, fin H11 G2 nG2 sm hD, by rw [List.length_append]; show _ + 1 ≤ _; omega⟩
              · have hlt : g.length < f := by
                  have h1 := ok.gg.le
                  have h2 : ¬ g.length = f := fun e => c7 (decide_eq_true (by rw [e]))
                  omega
                have gle := ok.gg.le
                have ll := live_len (n := n) ok.gg.nd ok.gg.sub
                walk_at "rd"
                refine ⟨.inl ⟨rfl, _, SqL.of hdy⟩, ?_⟩
                walk_at "rd"
                refine ⟨n, ga, g, rfl, rfl, g6, SqL.of hgy, fun p8 H7 sm7 np8 hp8 => ?_⟩
                have nps : p8 ≠ sa := fun e => by
                  obtain ⟨u, v, h⟩ := sty
                  rw [e, h] at np8
                  cases np8
                walk_at "rd"
                refine ⟨sa, p8, _, rfl, rfl, sty.same sm7, .inr hp8, nps, by rw [List.length_map]; omega, by rw [List.length_map]; omega, fun v H8 hv kp8 hST8 => ?_⟩
                obtain ⟨s, hs, rfl⟩ := List.mem_map.mp hv
                have up8 : ∀ b o, b ≠ sa → H7 b = some o → H8 b = some o := fun b o n e => kp8 b o (fun z => n (List.mem_singleton.mp z)) e
                have hC8 := (hCy.same sm7).kp1 (sty.same sm7) kp8
                have hg8 : LI H8 ga g := up8 _ _ nga1.1 (sm7 _ _ hgy)
                have hd8 : LI H8 D (dn.map (·.1)) := up8 _ _ nda1.1 (sm7 _ _ hdy)
                walk_at "rd"
                refine ⟨_, _, _, rfl, rfl, hd8, by rw [List.length_map, List.length_map]; exact small1000 (by omega), ?_⟩
                have hC9 := hC8.putL (ys := (dn.map (·.1)).map V.int ++ [V.int s]) hd8 nda1.2.2.1
                have hg9 : LI (upd H8 D (.lst ((dn.map (·.1)).map V.int ++ [V.int s]))) ga g := (upd_ne nad).trans hg8
                have hd9 : (upd H8 D (.lst ((dn.map (·.1)).map V.int ++ [V.int s]))) D = some (.lst ((dn.map (·.1)).map V.int ++ [V.int s])) := upd_same
                have hST9 : ST (upd H8 D (.lst ((dn.map (·.1)).map V.int ++ [V.int s]))) sa := let ⟨u, v, h⟩ := hST8; ⟨u, v, (upd_ne nda1.1.symm).trans h⟩
                have kp9 : Kp [sa, k.dd, k.dl] H (upd H8 D (.lst ((dn.map (·.1)).map V.int ++ [V.int s]))) := fun b o m e => (upd_ne (ne_of_none e nda)).trans (up8 _ _ (fun z => m (by rw [z]; exact List.mem_cons_self ..)) (sm7 _ _ (kpy b o m e)))
                obtain ⟨dx, ts, h1, h2, h3, h4⟩ := id hC9
                have nsd := st_dl hST9 hC9
                walk_at "rd"
                refine ⟨_, _, _, rfl, h1, fl_no (by decide +kernel), ?_⟩
                walk_at "rd"
                refine ⟨D, _, -1, _, rfl, rfl, SqL.of hd9, at_last, ?_⟩
                walk_at "rd"
                refine ⟨k, n, f, r, t, g, dn, s, rfl, rfl, hC9, hG, ok.gg, hs, hlt, by omega, fun H10 kp10 hC10 => ?_⟩
                have hd10 : LI H10 D ((dn ++ [(s, ((flN t r (oth n g).length : Nat) : Int))]).map (·.1)) := by
                  have h9 := kp10 _ _ (no2 nda1.2.1 nda1.2.2.1) hd9
                  rw [List.map_append]
                  show H10 D = some (.lst ((dn.map (·.1) ++ [s]).map V.int))
                  rw [List.map_append]
                  exact h9
                have hd10b := kp10 _ _ (no2 nda1.2.1 nda1.2.2.1) hd9
                have hg10 : LI H10 ga g := kp10 _ _ (no2 nga1.2.1 nga1.2.2.1) hg9
                have hso := mem_oth.mp hs
                have fin := MV.step (fun b o m e => kp10 b o (fun q => m (List.mem_cons_of_mem _ q)) (kp9 b o m e)) (hST9.kp kp10 (no2 nsd.2.1 nsd.1)) hC10 hd10 nda (ok.fail hso.2 hso.1.1 hso.1.2 hlt)
                walk_at "rd"
                refine ⟨D, _, -1, _, rfl, rfl, SqL.of hd10b, at_last, ?_⟩
                walk_at "rd"
                refine ⟨by show 1 ≤ sizeLine; decide, fun b8 nb8 => ?_⟩
                have s8 := sNew (o := .lst [.int s]) nb8
                refine ⟨_, _, _, _, rfl, rfl, s8 _ _ hg10, upd_same, by rw [List.length_map]; exact Nat.le_of_lt (small1000 (by show _ + 1 ≤ 1000; omega)), fun c8 nc8 => ?_⟩
                walk_at "rd"
                exact ⟨c8, _, _, _, _, _, _, rfl, fin _ c8 (s8.free nc8) (s8.trans (sNew nc8)) (by show upd _ c8 _ c8 = _; rw [upd_same, List.map_append]; rfl), by rw [List.length_append]; show _ + 1 ≤ _; omega⟩
          · have hlt : g.length < f := by
              have e : g = [] := nil_of c5
              rw [e]
              exact f1
            have gle := ok.gg.le
            have ll := live_len (n := n) ok.gg.nd ok.gg.sub
            walk_at "rd"
            refine ⟨.inl ⟨rfl, _, SqL.of hdy⟩, ?_⟩
            walk_at "rd"
            refine ⟨n, ga, g, rfl, rfl, g6, SqL.of hgy, fun p8 H7 sm7 np8 hp8 => ?_⟩
            have nps : p8 ≠ sa := fun e => by
              obtain ⟨u, v, h⟩ := sty
              rw [e, h] at np8
              cases np8
            walk_at "rd"
            refine ⟨sa, p8, _, rfl, rfl, sty.same sm7, .inr hp8, nps, by rw [List.length_map]; omega, by rw [List.length_map]; omega, fun v H8 hv kp8 hST8 => ?_⟩
            obtain ⟨s, hs, rfl⟩ := List.mem_map.mp hv
            have up8 : ∀ b o, b ≠ sa → H7 b = some o → H8 b = some o := fun b o n e => kp8 b o (fun z => n (List.mem_singleton.mp z)) e
            have hC8 := (hCy.same sm7).kp1 (sty.same sm7) kp8
            have hg8 : LI H8 ga g := up8 _ _ nga1.1 (sm7 _ _ hgy)
            have hd8 : LI H8 D (dn.map (·.1)) := up8 _ _ nda1.1 (sm7 _ _ hdy)
            walk_at "rd"
            refine ⟨_, _, _, rfl, rfl, hd8, by rw [List.length_map, List.length_map]; exact small1000 (by omega), ?_⟩
            have hC9 := hC8.putL (ys := (dn.map (·.1)).map V.int ++ [V.int s]) hd8 nda1.2.2.1
            have hg9 : LI (upd H8 D (.lst ((dn.map (·.1)).map V.int ++ [V.int s]))) ga g := (upd_ne nad).trans hg8
            have hd9 : (upd H8 D (.lst ((dn.map (·.1)).map V.int ++ [V.int s]))) D = some (.lst ((dn.map (·.1)).map V.int ++ [V.int s])) := upd_same
            have hST9 : ST (upd H8 D (.lst ((dn.map (·.1)).map V.int ++ [V.int s]))) sa := let ⟨u, v, h⟩ := hST8; ⟨u, v, (upd_ne nda1.1.symm).trans h⟩
            have kp9 : Kp [sa, k.dd, k.dl] H (upd H8 D (.lst ((dn.map (·.1)).map V.int ++ [V.int s]))) := fun b o m e => (upd_ne (ne_of_none e nda)).trans (up8 _ _ (fun z => m (by rw [z]; exact List.mem_cons_self ..)) (sm7 _ _ (kpy b o m e)))
            obtain ⟨dx, ts, h1, h2, h3, h4⟩ := id hC9
            have nsd := st_dl hST9 hC9
            walk_at "rd"
            refine ⟨_, _, _, rfl, h1, fl_no (by decide +kernel), ?_⟩
            walk_at "rd"
            refine ⟨D, _, -1, _, rfl, rfl, SqL.of hd9, at_last, ?_⟩
            walk_at "rd"
            refine ⟨k, n, f, r, t, g, dn, s, rfl, rfl, hC9, hG, ok.gg, hs, hlt, by omega, fun H10 kp10 hC10 => ?_⟩
            have hd10 : LI H10 D ((dn ++ [(s, ((flN t r (oth n g).length : Nat) : Int))]).map (·.1)) := by
              have h9 := kp10 _ _ (no2 nda1.2.1 nda1.2.2.1) hd9
              rw [List.map_append]
              show H10 D = some (.lst ((dn.map (·.1) ++ [s]).map V.int))
              rw [List.map_append]
              exact h9
            have hd10b := kp10 _ _ (no2 nda1.2.1 nda1.2.2.1) hd9
            have hg10 : LI H10 ga g := kp10 _ _ (no2 nga1.2.1 nga1.2.2.1) hg9
            have hso := mem_oth.mp hs
            have fin := MV.step (fun b o m e => kp10 b o (fun q => m (List.mem_cons_of_mem _ q)) (kp9 b o m e)) (hST9.kp kp10 (no2 nsd.2.1 nsd.1)) hC10 hd10 nda (ok.fail hso.2 hso.1.1 hso.1.2 hlt)
            walk_at "rd"
            refine ⟨D, _, -1, _, rfl, rfl, SqL.of hd10b, at_last, ?_⟩
            walk_at "rd"
            refine ⟨by show 1 ≤ sizeLine; decide, fun b8 nb8 => ?_⟩
            have s8 := sNew (o := .lst [.int s]) nb8
            refine ⟨_, _, _, _, rfl, rfl, s8 _ _ hg10, upd_same, by rw [List.length_map]; exact Nat.le_of_lt (small1000 (by show _ + 1 ≤ 1000; omega)), fun c8 nc8 => ?_⟩
            walk_at "rd"
            exact ⟨c8, _, _, _, _, _, _, rfl, fin _ c8 (s8.free nc8) (s8.trans (sNew nc8)) (by show upd _ c8 _ c8 = _; rw [upd_same, List.map_append]; rfl), by rw [List.length_append]; show _ + 1 ≤ _; omega⟩
      · have rf : Same H3 H3 := fun _ _ e => e
        have hgx := rf _ _ hga3
        have hdx := rf _ _ hda3
        walk_at "rd"
        refine ⟨Nat.zero_le _, fun z2 nz2 => ?_⟩
        have sz2 := sNew (o := .lst []) nz2
        refine rNeD_nil hgx nz2 ?_
        refine ⟨_, rfl, ?_⟩
        have hgy : LI _ ga g := sz2 _ _ hgx
        have hdy : LI _ D (dn.map (·.1)) := sz2 _ _ hdx
        have sty := (hST3.same rf).same sz2
        have hCy := (hC3.same rf).same sz2
        have kpy : Kp [sa, k.dd, k.dl] H _ := fun b o m e => sz2 _ _ (rf _ _ (kpA b o m e))
        refine ite2 (fun c5 => ?_) (fun c5 => ?_)
        · have gne : g ≠ [] := fun e => by
            rw [e] at c5
            exact Bool.noConfusion c5
          walk_at "rd"
          refine ite2 (fun c6 => ?_) (fun c6 => ?_)
          · have gp := List.length_pos_iff.mpr gne
            have gle := ok.gg.le
            walk_at "rd"
            refine ⟨.inl ⟨rfl, _, SqL.of hdy⟩, ?_⟩
            walk_at "rd"
            refine ⟨sa, ga, _, rfl, rfl, sty, .inl hgy, nga1.1, by rw [List.length_map]; omega, by rw [List.length_map]; omega, fun v H8 hv kp8 hST8 => ?_⟩
            obtain ⟨s, hs, rfl⟩ := List.mem_map.mp hv
            have up8 : ∀ b o, b ≠ sa → _ = some o → H8 b = some o := fun b o n e => kp8 b o (fun z => n (List.mem_singleton.mp z)) e
            have hC8 := hCy.kp1 sty kp8
            have hg8 : LI H8 ga g := up8 _ _ nga1.1 hgy
            have hd8 : LI H8 D (dn.map (·.1)) := up8 _ _ nda1.1 hdy
            walk_at "rd"
            refine ⟨_, _, _, rfl, rfl, hd8, by rw [List.length_map, List.length_map]; exact small1000 (by omega), ?_⟩
            have hC9 := hC8.putL (ys := (dn.map (·.1)).map V.int ++ [V.int s]) hd8 nda1.2.2.1
            have hg9 : LI (upd H8 D (.lst ((dn.map (·.1)).map V.int ++ [V.int s]))) ga g := (upd_ne nad).trans hg8
            have hd9 : (upd H8 D (.lst ((dn.map (·.1)).map V.int ++ [V.int s]))) D = some (.lst ((dn.map (·.1)).map V.int ++ [V.int s])) := upd_same
            have hST9 : ST (upd H8 D (.lst ((dn.map (·.1)).map V.int ++ [V.int s]))) sa := let ⟨u, v, h⟩ := hST8; ⟨u, v, (upd_ne nda1.1.symm).trans h⟩
            have kp9 : Kp [sa, k.dd, k.dl] H (upd H8 D (.lst ((dn.map (·.1)).map V.int ++ [V.int s]))) := fun b o m e => (upd_ne (ne_of_none e nda)).trans (up8 _ _ (fun z => m (by rw [z]; exact List.mem_cons_self ..)) (kpy b o m e))
            obtain ⟨dx, ts, h1, h2, h3, h4⟩ := id hC9
            have nsd := st_dl hST9 hC9
            walk_at "rd"
            refine ⟨_, _, _, rfl, h1, fl_no (by decide +kernel), ?_⟩
            walk_at "rd"
            refine ⟨D, _, -1, _, rfl, rfl, SqL.of hd9, at_last, ?_⟩
            walk_at "rd"

            refine ⟨k, n, f, r, t, g, dn, s, rfl, rfl, hC9, hG, ok.gg, hs, by omega, fun H10 kp10 hC10 => ?_⟩
            have hd10 : LI H10 D ((dn ++ [(s, ((ldN t r (oth n (rmv g s)).length : Nat) : Int))]).map (·.1)) := by
              have h9 := kp10 _ _ (no2 nda1.2.1 nda1.2.2.1) hd9
              rw [List.map_append]
              show H10 D = some (.lst ((dn.map (·.1) ++ [s]).map V.int))
              rw [List.map_append]
              exact h9
            have hd10b := kp10 _ _ (no2 nda1.2.1 nda1.2.2.1) hd9
            have hg10 : LI H10 ga g := kp10 _ _ (no2 nga1.2.1 nga1.2.2.1) hg9
            have fin := MV.step (fun b o m e => kp10 b o (fun q => m (List.mem_cons_of_mem _ q)) (kp9 b o m e)) (hST9.kp kp10 (no2 nsd.2.1 nsd.1)) hC10 hd10 nda (ok.recover hs)
            walk_at "rd"
            refine ⟨⟨_, SqL.of hg10⟩, fun G2 nG2 => lc_list (K := K) (a := ga) (xs := g.map V.int) (fun i H' => Same H10 H' ∧ LI H' G2 (rmv (g.take i) s)) ⟨sNew nG2, upd_same⟩ (fun i H' _ h => h.1.seq (SqL.of hg10)) ?_ ?_⟩
            · rintro i x H' hi ⟨sm, hD⟩
              obtain ⟨y, hy, rfl⟩ := map_atF hi
              have ef := rmv_snoc (s := s) hy
              refine ⟨rfl, ?_⟩
              walk_at "rd"
              refine ⟨D, _, -1, _, rfl, rfl, SqL.of (sm _ _ hd10b), at_last, ?_⟩
              walk_at "rd"
              by_cases e : y = s
              · rw [if_neg (by simp [e]), List.append_nil] at ef
                refine ifF (by rw [e]; simp) ⟨sm, ?_⟩
                show H' G2 = _
                rw [ef]
                exact hD
              · rw [if_pos (by simp [e])] at ef
                refine ifT (by simp [e]) ?_
                refine ⟨_, rfl, _, hD, ?_, sPut sm nG2, ?_⟩
                · rw [List.length_map]
                  refine small1000 (Nat.le_trans (List.length_filter_le ..) ?_)
                  rw [List.length_take]
                  omega
                · show upd H' G2 _ G2 = _
                  rw [upd_same, ef, List.map_append]
                  rfl
            · rintro H11 ⟨sm, hD⟩
              rw [List.length_map, List.take_length] at hD
              walk_at "rd"
              exact ⟨G2, _, _, _, _, _, _, rfl, fin H11 G2 nG2 sm hD, by rw [List.length_append]; show _ + 1 ≤ _; omega⟩
          · walk_at "rd"
            refine ⟨ga, _, rfl, .inl (SqL.of hgy), ?_⟩
            rw [List.length_map]
            walk_at "rd"
            refine ite2 (fun c7 => ?_) (fun c7 => ?_)
            · have gp := List.length_pos_iff.mpr gne
              have gle := ok.gg.le
              walk_at "rd"
              refine ⟨.inl ⟨rfl, _, SqL.of hdy⟩, ?_⟩
              walk_at "rd"
              refine ⟨sa, ga, _, rfl, rfl, sty, .inl hgy, nga1.1, by rw [List.length_map]; omega, by rw [List.length_map]; omega, fun v H8 hv kp8 hST8 => ?_⟩
              obtain ⟨s, hs, rfl⟩ := List.mem_map.mp hv
              have up8 : ∀ b o, b ≠ sa → _ = some o → H8 b = some o := fun b o n e => kp8 b o (fun z => n (List.mem_singleton.mp z)) e
              have hC8 := hCy.kp1 sty kp8
              have hg8 : LI H8 ga g := up8 _ _ nga1.1 hgy
              have hd8 : LI H8 D (dn.map (·.1)) := up8 _ _ nda1.1 hdy
              walk_at "rd"
              refine ⟨_, _, _, rfl, rfl, hd8, by rw [List.length_map, List.length_map]; exact small1000 (by omega), ?_⟩
              have hC9 := hC8.putL (ys := (dn.map (·.1)).map V.int ++ [V.int s]) hd8 nda1.2.2.1
              have hg9 : LI (upd H8 D (.lst ((dn.map (·.1)).map V.int ++ [V.int s]))) ga g := (upd_ne nad).trans hg8
              have hd9 : (upd H8 D (.lst ((dn.map (·.1)).map V.int ++ [V.int s]))) D = some (.lst ((dn.map (·.1)).map V.int ++ [V.int s])) := upd_same
              have hST9 : ST (upd H8 D (.lst ((dn.map (·.1)).map V.int ++ [V.int s]))) sa := let ⟨u, v, h⟩ := hST8; ⟨u, v, (upd_ne nda1.1.symm).trans h⟩
              have kp9 : Kp [sa, k.dd, k.dl] H (upd H8 D (.lst ((dn.map (·.1)).map V.int ++ [V.int s]))) := fun b o m e => (upd_ne (ne_of_none e nda)).trans (up8 _ _ (fun z => m (by rw [z]; exact List.mem_cons_self ..)) (kpy b o m e))
              obtain ⟨dx, ts, h1, h2, h3, h4⟩ := id hC9
              have nsd := st_dl hST9 hC9
              walk_at "rd"
              refine ⟨_, _, _, rfl, h1, fl_no (by decide +kernel), ?_⟩
              walk_at "rd"
              refine ⟨D, _, -1, _, rfl, rfl, SqL.of hd9, at_last, ?_⟩
              walk_at "rd"

              refine ⟨k, n, f, r, t, g, dn, s, rfl, rfl, hC9, hG, ok.gg, hs, by omega, fun H10 kp10 hC10 => ?_⟩
              have hd10 : LI H10 D ((dn ++ [(s, ((ldN t r (oth n (rmv g s)).length : Nat) : Int))]).map (·.1)) := by
                have h9 := kp10 _ _ (no2 nda1.2.1 nda1.2.2.1) hd9
                rw [List.map_append]
                show H10 D = some (.lst ((dn.map (·.1) ++ [s]).map V.int))
                rw [List.map_append]
                exact h9
              have hd10b := kp10 _ _ (no2 nda1.2.1 nda1.2.2.1) hd9
              have hg10 : LI H10 ga g := kp10 _ _ (no2 nga1.2.1 nga1.2.2.1) hg9
              have fin := MV.step (fun b o m e => kp10 b o (fun q => m (List.mem_cons_of_mem _ q)) (kp9 b o m e)) (hST9.kp kp10 (no2 nsd.2.1 nsd.1)) hC10 hd10 nda (ok.recover hs)
              walk_at "rd"
              refine ⟨⟨_, SqL.of hg10⟩, fun G2 nG2 => lc_list (K := K) (a := ga) (xs := g.map V.int) (fun i H' => Same H10 H' ∧ LI H' G2 (rmv (g.take i) s)) ⟨sNew nG2, upd_same⟩ (fun i H' _ h => h.1.seq (SqL.of hg10)) ?_ ?_⟩
              · rintro i x H' hi ⟨sm, hD⟩
                obtain ⟨y, hy, rfl⟩ := map_atF hi
                have ef := rmv_snoc (s := s) hy
                refine ⟨rfl, ?_⟩
                walk_at "rd"
                refine ⟨D, _, -1, _, rfl, rfl, SqL.of (sm _ _ hd10b), at_last, ?_⟩
                walk_at "rd"
                by_cases e : y = s
                · rw [if_neg (by simp [e]), List.append_nil] at ef
                  refine ifF (by rw [e]; simp) ⟨sm, ?_⟩
                  show H' G2 = _
                  rw [ef]
                  exact hD
                · rw [if_pos (by simp [e])] at ef
                  refine ifT (by simp [e]) ?_
                  refine ⟨_, rfl, _, hD, ?_, sPut sm nG2, ?_⟩
                  · rw [List.length_map]
                    refine small1000 (Nat.le_trans (List.length_filter_le ..) ?_)
                    rw [List.length_take]
                    omega
                  · show upd H' G2 _ G2 = _
                    rw [upd_same, ef, List.map_append]
                    rfl
              · rintro H11 ⟨sm, hD⟩
                rw [List.length_map, List.take_length] at hD
                walk_at "rd"
                exact ⟨G2, _, _, _, _, _, _, rfl, fin H11 G2 nG2 sm hD, by rw [List.length_append]; show _ + 1 ≤ _; omega⟩
            · have hlt : g.length < f := by
                have h1 := ok.gg.le
                have h2 : ¬ g.length = f := fun e => c7 (decide_eq_true (by rw [e]))
                omega
              have gle := ok.gg.le
              have ll := live_len (n := n) ok.gg.nd ok.gg.sub
              walk_at "rd"
              refine ⟨.inl ⟨rfl, _, SqL.of hdy⟩, ?_⟩
              walk_at "rd"
              refine ⟨n, ga, g, rfl, rfl, g6, SqL.of hgy, fun p8 H7 sm7 np8 hp8 => ?_⟩
              have nps : p8 ≠ sa := fun e => by
                obtain ⟨u, v, h⟩ := sty
                rw [e, h] at np8
                cases np8
              walk_at "rd"
              refine ⟨sa, p8, _, rfl, rfl, sty.same sm7, .inr hp8, nps, by rw [List.length_map]; omega, by rw [List.length_map]; omega, fun v H8 hv kp8 hST8 => ?_⟩
              obtain ⟨s, hs, rfl⟩ := List.mem_map.mp hv
              have up8 : ∀ b o, b ≠ sa → H7 b = some o → H8 b = some o := fun b o n e => kp8 b o (fun z => n (List.mem_singleton.mp z)) e
              have hC8 := (hCy.same sm7).kp1 (sty.same sm7) kp8
              have hg8 : LI H8 ga g := up8 _ _ nga1.1 (sm7 _ _ hgy)
              have hd8 : LI H8 D (dn.map (·.1)) := up8 _ _ nda1.1 (sm7 _ _ hdy)
              walk_at "rd"
              refine ⟨_, _, _, rfl, rfl, hd8, by rw [List.length_map, List.length_map]; exact small1000 (by omega), ?_⟩
              have hC9 := hC8.putL (ys := (dn.map (·.1)).map V.int ++ [V.int s]) hd8 nda1.2.2.1
              have hg9 : LI (upd H8 D (.lst ((dn.map (·.1)).map V.int ++ [V.int s]))) ga g := (upd_ne nad).trans hg8
              have hd9 : (upd H8 D (.lst ((dn.map (·.1)).map V.int ++ [V.int s]))) D = some (.lst ((dn.map (·.1)).map V.int ++ [V.int s])) := upd_same
              have hST9 : ST (upd H8 D (.lst ((dn.map (·.1)).map V.int ++ [V.int s]))) sa := let ⟨u, v, h⟩ := hST8; ⟨u, v, (upd_ne nda1.1.symm).trans h⟩
              have kp9 : Kp [sa, k.dd, k.dl] H (upd H8 D (.lst ((dn.map (·.1)).map V.int ++ [V.int s]))) := fun b o m e => (upd_ne (ne_of_none e nda)).trans (up8 _ _ (fun z => m (by rw [z]; exact List.mem_cons_self ..)) (sm7 _ _ (kpy b o m e)))
              obtain ⟨dx, ts, h1, h2, h3, h4⟩ := id hC9
              have nsd := st_dl hST9 hC9
              walk_at "rd"
              refine ⟨_, _, _, rfl, h1, fl_no (by decide +kernel), ?_⟩
              walk_at "rd"
              refine ⟨D, _, -1, _, rfl, rfl, SqL.of hd9, at_last, ?_⟩
              walk_at "rd"
              refine ⟨k, n, f, r, t, g, dn, s, rfl, rfl, hC9, hG, ok.gg, hs, hlt, by omega, fun H10 kp10 hC10 => ?_⟩
              have hd10 : LI H10 D ((dn ++ [(s, ((flN t r (oth n g).length : Nat) : Int))]).map (·.1)) := by
                have h9 := kp10 _ _ (no2 nda1.2.1 nda1.2.2.1) hd9
                rw [List.map_append]
                show H10 D = some (.lst ((dn.map (·.1) ++ [s]).map V.int))
                rw [List.map_append]
                exact h9
              have hd10b := kp10 _ _ (no2 nda1.2.1 nda1.2.2.1) hd9
              have hg10 : LI H10 ga g := kp10 _ _ (no2 nga1.2.1 nga1.2.2.1) hg9
              have hso := mem_oth.mp hs
              have fin := MV.step (fun b o m e => kp10 b o (fun q => m (List.mem_cons_of_mem _ q)) (kp9 b o m e)) (hST9.kp kp10 (no2 nsd.2.1 nsd.1)) hC10 hd10 nda (ok.fail hso.2 hso.1.1 hso.1.2 hlt)
              walk_at "rd"
              refine ⟨D, _, -1, _, rfl, rfl, SqL.of hd10b, at_last, ?_⟩
              walk_at "rd"
              refine ⟨by show 1 ≤ sizeLine; decide, fun b8 nb8 => ?_⟩
              have s8 := sNew (o := .lst [.int s]) nb8
              refine ⟨_, _, _, _, rfl, rfl, s8 _ _ hg10, upd_same, by rw [List.length_map]; exact Nat.le_of_lt (small1000 (by show _ + 1 ≤ 1000; omega)), fun c8 nc8 => ?_⟩
              walk_at "rd"
              exact ⟨c8, _, _, _, _, _, _, rfl, fin _ c8 (s8.free nc8) (s8.trans (sNew nc8)) (by show upd _ c8 _ c8 = _; rw [upd_same, List.map_append]; rfl), by rw [List.length_append]; show _ + 1 ≤ _; omega⟩
        · have hlt : g.length < f := by
            have e : g = [] := nil_of c5
            rw [e]
            exact f1
          have gle := ok.gg.le
          have ll := live_len (n := n) ok.gg.nd ok.gg.sub
          walk_at "rd"
          refine ⟨.inl ⟨rfl, _, SqL.of hdy⟩, ?_⟩
          walk_at "rd"
          refine ⟨n, ga, g, rfl, rfl, g6, SqL.of hgy, fun p8 H7 sm7 np8 hp8 => ?_⟩
          have nps : p8 ≠ sa := fun e => by
            obtain ⟨u, v, h⟩ := sty
            rw [e, h] at np8
            cases np8
          walk_at "rd"
          refine ⟨sa, p8, _, rfl, rfl, sty.same sm7, .inr hp8, nps, by rw [List.length_map]; omega, by rw [List.length_map]; omega, fun v H8 hv kp8 hST8 => ?_⟩
          obtain ⟨s, hs, rfl⟩ := List.mem_map.mp hv
          have up8 : ∀ b o, b ≠ sa → H7 b = some o → H8 b = some o := fun b o n e => kp8 b o (fun z => n (List.mem_singleton.mp z)) e
          have hC8 := (hCy.same sm7).kp1 (sty.same sm7) kp8
          have hg8 : LI H8 ga g := up8 _ _ nga1.1 (sm7 _ _ hgy)
          have hd8 : LI H8 D (dn.map (·.1)) := up8 _ _ nda1.1 (sm7 _ _ hdy)
          walk_at "rd"
          refine ⟨_, _, _, rfl, rfl, hd8, by rw [List.length_map, List.length_map]; exact small1000 (by omega), ?_⟩
          have hC9 := hC8.putL (ys := (dn.map (·.1)).map V.int ++ [V.int s]) hd8 nda1.2.2.1
          have hg9 : LI (upd H8 D (.lst ((dn.map (·.1)).map V.int ++ [V.int s]))) ga g := (upd_ne nad).trans hg8
          have hd9 : (upd H8 D (.lst ((dn.map (·.1)).map V.int ++ [V.int s]))) D = some (.lst ((dn.map (·.1)).map V.int ++ [V.int s])) := upd_same
          have hST9 : ST (upd H8 D (.lst ((dn.map (·.1)).map V.int ++ [V.int s]))) sa := let ⟨u, v, h⟩ := hST8; ⟨u, v, (upd_ne nda1.1.symm).trans h⟩
          have kp9 : Kp [sa, k.dd, k.dl] H (upd H8 D (.lst ((dn.map (·.1)).map V.int ++ [V.int s]))) := fun b o m e => (upd_ne (ne_of_none e nda)).trans (up8 _ _ (fun z => m (by rw [z]; exact List.mem_cons_self ..)) (sm7 _ _ (kpy b o m e)))
          obtain ⟨dx, ts, h1, h2, h3, h4⟩ := id hC9
          have nsd := st_dl hST9 hC9
          walk_at "rd"
          refine ⟨_, _, _, rfl, h1, fl_no (by decide +kernel), ?_⟩
          walk_at "rd"
          refine ⟨D, _, -1, _, rfl, rfl, SqL.of hd9, at_last, ?_⟩
          walk_at "rd"
          refine ⟨k, n, f, r, t, g, dn, s, rfl, rfl, hC9, hG, ok.gg, hs, hlt, by omega, fun H10 kp10 hC10 => ?_⟩
          have hd10 : LI H10 D ((dn ++ [(s, ((flN t r (oth n g).length : Nat) : Int))]).map (·.1)) := by
            have h9 := kp10 _ _ (no2 nda1.2.1 nda1.2.2.1) hd9
            rw [List.map_append]
            show H10 D = some (.lst ((dn.map (·.1) ++ [s]).map V.int))
            rw [List.map_append]
            exact h9
          have hd10b := kp10 _ _ (no2 nda1.2.1 nda1.2.2.1) hd9
          have hg10 : LI H10 ga g := kp10 _ _ (no2 nga1.2.1 nga1.2.2.1) hg9
          have hso := mem_oth.mp hs
          have fin := MV.step (fun b o m e => kp10 b o (fun q => m (List.mem_cons_of_mem _ q)) (kp9 b o m e)) (hST9.kp kp10 (no2 nsd.2.1 nsd.1)) hC10 hd10 nda (ok.fail hso.2 hso.1.1 hso.1.2 hlt)
          walk_at "rd"
          refine ⟨D, _, -1, _, rfl, rfl, SqL.of hd10b, at_last, ?_⟩
          walk_at "rd"
          refine ⟨by show 1 ≤ sizeLine; decide, fun b8 nb8 => ?_⟩
          have s8 := sNew (o := .lst [.int s]) nb8
          refine ⟨_, _, _, _, rfl, rfl, s8 _ _ hg10, upd_same, by rw [List.length_map]; exact Nat.le_of_lt (small1000 (by show _ + 1 ≤ 1000; omega)), fun c8 nc8 => ?_⟩
          walk_at "rd"
          exact ⟨c8, _, _, _, _, _, _, rfl, fin _ c8 (s8.free nc8) (s8.trans (sNew nc8)) (by show upd _ c8 _ c8 = _; rw [upd_same, List.map_append]; rfl), by rw [List.length_append]; show _ + 1 ≤ _; omega⟩
    · rintro σ H2 ⟨ga, v7, v8, v9, v10, g, dn, rfl, mv, hdl⟩
      walk_at "rd"
      refine ⟨by show 2 ≤ sizeLine; decide, fun p2 np2 => ?_⟩
      refine q p2 _ D ga g dn upd_same ?_ (by omega)
      obtain ⟨kp, hST2, hC2, hga, hda, nga, nda, nad, ok⟩ := mv
      have s4 := sNew (o := .tup [.ref ga, .ref D]) np2
      exact ⟨fun b o n e => s4 _ _ (kp b o n e), hST2.same s4, hC2.same s4, s4 _ _ hga, s4 _ _ hda, nga, nda, nad, ok⟩
end
end EF
namespace EF
open PySem PySem.Spec PyProof.Rows L2
local macro_rules | `(tactic| walk_at "rd") => `(tactic| repeat (first
  | refine ⟨_, rfl, ?_⟩ | refine ⟨rfl, ?_⟩ | refine ⟨_, _, rfl, ?_⟩ | refine ⟨_, _, rfl, rfl, ?_⟩ | refine ⟨_, _, _, rfl, ?_⟩ | refine ⟨_, _, _, rfl, rfl, rfl, ?_⟩ | refine ⟨_, _, _, _, rfl, ?_⟩ | refine ⟨_, _, _, _, rfl, rfl, rfl, rfl, ?_⟩ | refine ⟨_, _, _, _, _, rfl, ?_⟩))
section
variable {P : Program} {w : World} {K : PySem.W.Frag} {mg : Str → Option Value} {base : Heap}
/-- who holds what, by the live ones -/
def ownsL (n f r t : Nat) (L : List Int) : List (List Int) := (List.range t).map fun i => own (ordL n (min n (f + r)) t i) L r
theorem owns_at {n f r t i : Nat} {L : List Int} (h : i < t) : (ownsL n f r t L)[i]? = some (own (ordL n (min n (f + r)) t i) L r) := by
  unfold ownsL
  rw [List.getElem?_map, List.getElem?_range h]; rfl
theorem owns_len (n f r t : Nat) (L : List Int) : (ownsL n f r t L).length = t := by unfold ownsL; rw [List.length_map, List.length_range]
def loadsL (r t : Nat) (L : List Int) : List Int := L.map fun _ => ((ldN t r L.length : Nat) : Int)
def TD (H : Hp) (q : Addr) (n f r t : Nat) (L : List Int) : Prop := ∃ a b c : Addr, H q = some (.lst [.ref a, .ref b, .ref c, .int (L.length : Nat)]) ∧ LT H a (ownsL n f r t L) ∧ LI H b (loadsL r t L) ∧ TI H c L
theorem LT.same {H H' : Hp} {a : Addr} {os : List (List Int)} (h : LT H a os) (e : Same H H') : LT H' a os := let ⟨ps, h1, h2⟩ := h; ⟨ps, e _ _ h1, h2.up fun _ _ q => e _ _ q⟩
theorem TD.same {H H' : Hp} {q : Addr} {n f r t : Nat} {L : List Int} (h : TD H q n f r t L) (e : Same H H') : TD H' q n f r t L := let ⟨a, b, c, h1, h2, h3, h4⟩ := h; ⟨a, b, c, e _ _ h1, h2.same e, e _ _ h3, e _ _ h4⟩
def tdD (n f r t : Nat) (L : List Int) : PyData := .list [.list ((ownsL n f r t L).map tupD), .list ((loadsL r t L).map PyData.int), tupD L, .int (L.length : Nat)]
theorem shp_ints (k : Nat) (ns : List Int) : Shp (k + 1) (.list (ns.map PyData.int)) := shp_list fun d hd => by
  obtain ⟨i, _, rfl⟩ := List.mem_map.mp hd
  exact shp_int k i
theorem Shp.mono {k j : Nat} {d : PyData} (h : Shp k d) (e : k ≤ j) : Shp j d := ⟨h.1, Nat.le_trans h.2 e⟩
theorem shp_owns (k : Nat) (os : List (List Int)) : Shp (k + 2) (.list (os.map tupD)) := shp_list fun d hd => by
  obtain ⟨o, _, rfl⟩ := List.mem_map.mp hd
  exact (shp_tupD o).mono (by omega)
theorem shp_tdD (n f r t : Nat) (L : List Int) : SeqAt.shaped (tdD n f r t L) = true := by
  refine (shp_list (k := 2) fun d hd => ?_).ok (by decide)
  simp only [List.mem_cons, List.not_mem_nil, or_false] at hd
  rcases hd with rfl | rfl | rfl | rfl
  · exact shp_owns 0 _
  · exact shp_ints 1 _
  · exact (shp_tupD L).mono (by decide)
  · exact shp_int _ _
theorem LT.dp {H : Hp} {a : Addr} {os : List (List Int)} (h : LT H a os) : Dp K H (.ref a) (.list (os.map tupD)) := let ⟨ps, h1, h2⟩ := h; .lst (SqL.of h1) (dp_pt h2)
theorem TD.dp {H : Hp} {q : Addr} {n f r t : Nat} {L : List Int} (h : TD H q n f r t L) : Dp K H (.ref q) (tdD n f r t L) :=
  let ⟨a, b, c, h1, h2, h3, h4⟩ := h
  .lst (SqL.of h1) (.cons h2.dp (.cons (.lst (SqL.of h3) (dp_ints _)) (.cons (dp_tup h4) (.cons (.int _) .nil))))
abbrev sp__law_told (K : PySem.W.Frag) : Sp := sp3 fun x y z H Q => ∃ (k : CA) (n f r t : Nat) (g : List Int) (dn : List (Int × Int)) (u : Addr) (L : List Int), x = .ref k.c ∧ y = .int t ∧ z = .ref u ∧ Clu K H k n f r t g dn ∧ Good n f r t ∧ GG n f g ∧ TI H u L ∧ oth n g = L ∧
  ∀ q H', Same H H' → H q = none → TD H' q n f r t L → Q (.ref q) H'
abbrev N__law_told : List Str := ["_law_cluster", "_law_total", "_law_up_here", "_law_owned_here", "_law_number", "_law_server"]
theorem sc__law_told : FnScope N__law_told ["_law_cluster", "_law_total", "_law_up_here"] (defScope s__law_told) := ⟨rfl, rfl, rfl, by decide +kernel, rfl, by decide +kernel, by decide +kernel⟩
theorem ok__law_told (T : Tx K mg) : C8.Cal P w K mg base 10 "_law_told" (sp__law_told K) [] := by
  have m_live := ok_C_live (P := P) (w := w) (K := K) (mg := mg) (base := base) T
  have m_load := ok_C_load (P := P) (w := w) (K := K) (mg := mg) (base := base) T
  have m_owners := ok_C_owners (P := P) (w := w) (K := K) (mg := mg) (base := base) T
  refine calD (k := 9) (N := N__law_told) (ps := ["_law_cluster", "_law_total", "_law_up_here"]) T.g__law_told T.f__law_told (fun _ _ _ _ _ _ us hl => match us, hl with | [_, _, _], _ => rfl) sc__law_told len3 (fun cdv A outer s H vs Q E hr h => ?_)
  obtain ⟨x1, x2, x3, rfl, h⟩ := h
  obtain ⟨fdL, FL, bL, kL⟩ := ok_C_len (P := P) (w := w) (K := K) (mg := mg) (base := base) T
  refine ⟨_, (pss_cons (ps_setLc (i := 3) (own := [("_law_number", 4)]) (g := gName 4) (tt := tYes) rfl sc__law_told.nd rfl rfl (sw_true rfl rfl rfl (by decide +kernel)) (pi_range1 (by rfl) T.n_range (pa_cons (pv 1) pa_nil)) (blkOk_by (own := [("_law_number", 4)]) (N := N__law_told) (sc := defScope s__law_told) (by decide +kernel)) (fun _ _ _ _ _ => pg_name (i := 4) sc__law_told.nd rfl (Or.inl rfl)) (fun _ _ _ _ _ => pts_nil) (fun _ _ _ _ _ => (C8.pe_mt m_owners hr (by decide) (pv 0) (pa_cons (pv 4) pa_nil))))
    (pss_one (ps_ret (pe_lst (pa_cons (pv 3) (pa_cons (pe_lc (own := [("_law_server", 5)]) (g := gName 5) (tt := tYes) rfl sc__law_told.nd (pi_tup (pv 2)) (blkOk_by (own := [("_law_server", 5)]) (N := N__law_told) (sc := defScope s__law_told) (by decide +kernel)) (fun _ _ _ _ _ => pg_name (i := 5) sc__law_told.nd rfl (Or.inl rfl)) (fun _ _ _ _ _ => pts_nil) (fun _ _ _ _ _ => (C8.pe_mt m_load hr (by decide) (pv 0) (pa_cons (pv 5) pa_nil)))) (pa_cons (C8.pe_mt0 m_live hr (by decide) (pv 0)) (pa_cons (pe_callB (call_lenO FL (hr.mono (by decide)) bL T.m_len.at_ T.m_len.fn) (by rfl) T.n_len PySem.boot_len (pa_cons (pv 0) pa_nil)) pa_nil)))))))), ?_⟩
  obtain ⟨k, n, f, r, t, g, dn, u, L, rfl, rfl, rfl, hC, hG, hgg, hu, rfl, q⟩ := h
  have ht := hG.gt.all.2.2.2
  have g6 := hG.gt.n6
  have ol := oth_small (g := g) g6
  walk_at "rd"
  refine ⟨by omega, by omega, fun D nD => lc_range (lo := 0) (n := ((t : Int)).toNat) (fun i H' => Same H H' ∧ LT H' D ((ownsL n f r t (oth n g)).take i)) ⟨sNew nD, [], upd_same, trivial⟩ ?_ ?_⟩
  · rintro i H' hi ⟨sm, ps, hD, hp⟩
    have hi2 : i < t := by omega
    refine ⟨rfl, ?_⟩
    rw [Int.zero_add]
    have hC1 := hC.same sm
    obtain ⟨dx, ts, h1, h2, h3, h4⟩ := id hC1
    walk_at "rd"
    refine ⟨_, _, _, rfl, h1, fl_no (by decide +kernel), ?_⟩
    walk_at "rd"
    refine ⟨k, n, f, r, t, g, dn, i, rfl, rfl, hC1, hG, hgg, hi2, fun p H2 sm2 np hT => ?_⟩
    have hl := hp.len
    rw [List.length_take, owns_len] at hl
    have hD2 := sm2 _ _ hD
    refine ⟨_, hD2, by rw [List.length_map, hl]; exact small1000 (by omega), sPut (sm.trans sm2) nD, ps ++ [p], ?_, ?_⟩
    · rw [upd_same, List.map_append]; rfl
    · rw [take_snoc (owns_at hi2)]
      refine PT.snoc ?_ (hp.up (tupKeep sm2 hD2))
      exact tupKeep (Same.refl _) hD2 _ _ hT
  · rintro H1 ⟨sm1, hO⟩
    have e : (ownsL n f r t (oth n g)).take ((t : Int)).toNat = ownsL n f r t (oth n g) := List.take_of_length_le (by rw [owns_len]; omega)
    rw [e] at hO
    have hu1 := sm1 _ _ hu
    walk_at "rd"
    refine ⟨⟨_, SqT.of hu1⟩, fun B nB => lc_tup (K := K) (a := u) (xs := (oth n g).map V.int) (fun i H' => Same H1 H' ∧ LI H' B (((oth n g).take i).map fun _ => ((ldN t r (oth n g).length : Nat) : Int))) ⟨sNew nB, upd_same⟩ (fun i H' _ h => SqT.of (h.1 _ _ hu1)) ?_ ?_⟩
    · rintro i x H' hi ⟨sm, hD⟩
      obtain ⟨z, hz, rfl⟩ := map_atF hi
      refine ⟨rfl, ?_⟩
      have hC1 := (hC.same sm1).same sm
      obtain ⟨dx, ts, h1, h2, h3, h4⟩ := id hC1
      walk_at "rd"
      refine ⟨_, _, _, rfl, h1, fl_no (by decide +kernel), ?_⟩
      walk_at "rd"
      refine ⟨k, n, f, r, t, g, dn, z, rfl, rfl, hC1, hG, List.mem_of_getElem? hz, fun H2 sm2 => ?_⟩
      refine ⟨_, sm2 _ _ hD, by rw [List.length_map, List.length_map, List.length_take]; exact small1000 (by omega), sPut (sm.trans sm2) nB, ?_⟩
      show upd H2 B _ B = _
      rw [upd_same, take_snoc hz, List.map_append, List.map_append]
      rfl
    · rintro H2 ⟨sm2, hB⟩
      rw [List.length_map, List.take_length] at hB
      have hC2 := (hC.same sm1).same sm2
      obtain ⟨dx, ts, h1, h2, h3, h4⟩ := id hC2
      walk_at "rd"
      refine ⟨_, _, _, rfl, h1, fl_no (by decide +kernel), ?_⟩
      walk_at "rd"
      refine ⟨k, n, f, r, t, g, dn, rfl, hC2, g6, fun c H3 sm3 nc hc => ?_⟩
      walk_at "rd"
      have hC3 := hC2.same sm3
      have h13 := sm3 _ _ h1
      refine ⟨k.c, dx, _, rfl, h13, _, rfl, k, n, f, r, t, g, dn, rfl, hC3, g6, fun H4 sm4 => ⟨_, rfl, by omega, ?_⟩⟩
      refine ⟨by show 4 ≤ sizeLine; decide, fun p np => ?_⟩
      have sm := ((sm2.trans sm3).trans sm4).trans (sNew (o := .lst [.ref D, .ref B, .ref c, .int ((oth n g).length : Nat)]) np)
      refine q p _ (sm1.trans sm) (sm1.free (sm2.free (sm3.free (sm4.free np)))) ⟨D, B, c, upd_same, LT.same hO sm, ?_, ?_⟩
      · exact sNew np _ _ (sm4 _ _ (sm3 _ _ hB))
      · exact sNew np _ _ (sm4 _ _ hc)
end
end EF
namespace EF
open PySem PySem.Spec PyProof.Rows L2
theorem oth_app (n : Nat) (g : List Int) (z : Int) : oth n (g ++ [z]) = rmv (oth n g) z := by
  unfold oth rmv
  rw [List.filter_filter]
  refine List.filter_congr fun x hx => ?_
  by_cases h1 : x ∈ g <;> by_cases h2 : x = z <;> simp [h1, h2]
/-- who takes over, by the live ones -/
def sucL (n f r t : Nat) (L : List Int) (z : Int) (i : Nat) : V := if r < L.length then sucV (ordL n (min n (f + r)) t i) L r z else .non
theorem suc_kind (n f r t : Nat) (L : List Int) (z : Int) (i : Nat) : sucL n f r t L z i = .non ∨ ∃ j, sucL n f r t L z i = .int j := by
  unfold sucL sucV
  split
  · split
    · exact .inr ⟨_, rfl⟩
    · exact .inl rfl
  · exact .inl rfl
def vD : V → PyData
  | .int i => .int i
  | _ => .none
def sucs (n f r t : Nat) (L : List Int) (z : Int) : List V := (List.range t).map (sucL n f r t L z)
theorem sucs_at {n f r t i : Nat} {L : List Int} {z : Int} (h : i < t) : (sucs n f r t L z)[i]? = some (sucL n f r t L z i) := by
  unfold sucs
  rw [List.getElem?_map, List.getElem?_range h]; rfl
theorem sucs_len (n f r t : Nat) (L : List Int) (z : Int) : (sucs n f r t L z).length = t := by unfold sucs; rw [List.length_map, List.length_range]
theorem dp_sucs {K : PySem.W.Frag} {H : Hp} : ∀ vs : List V, (∀ v ∈ vs, v = .non ∨ ∃ j, v = .int j) → DpAll K H vs (vs.map vD)
  | [], _ => .nil
  | v :: vs, h => by
    refine .cons ?_ (dp_sucs vs fun x hx => h x (List.mem_cons_of_mem _ hx))
    rcases h v (List.mem_cons_self ..) with rfl | ⟨j, rfl⟩
    · exact .non
    · exact .int j
/-- the items of what is told of the next failure; no list of them lies at D -/
def NX (D : Addr) (H : Hp) (n f r t : Nat) (L : List Int) : List Addr → List Int → Prop
  | [], [] => True
  | p :: q :: ps, z :: zs => (p ≠ D ∧ H p = some (.lst (sucs n f r t L z))) ∧ (∃ a, a ≠ D ∧ H q = some (.tup [.int (flN t r L.length : Nat), .ref a]) ∧ LT H a (ownsL n f r t (rmv L z))) ∧ NX D H n f r t L ps zs
  | _, _ => False
theorem NX.up {D : Addr} {H H' : Hp} {n f r t : Nat} {L : List Int} {xs : List V} (hD : H D = some (.lst xs)) (k : ∀ b o, b ≠ D → H b = some o → H' b = some o) : ∀ {ps : List Addr} {zs : List Int}, NX D H n f r t L ps zs → NX D H' n f r t L ps zs
  | [], [], _ => trivial
  | p :: q :: ps, z :: zs, ⟨⟨h1, h2⟩, ⟨a, h3, h4, ts, h5, h6⟩, h7⟩ =>
    ⟨⟨h1, k _ _ h1 h2⟩, ⟨a, h3, k _ _ (fun e => by rw [e, hD] at h4; cases h4) h4, ts, k _ _ h3 h5, h6.up fun b ys e => k _ _ (fun e2 => by rw [e2, hD] at e; cases e) e⟩, NX.up hD k h7⟩
  | [], _ :: _, h => h.elim
  | [_], [], h => h.elim
  | [_], _ :: _, h => h.elim
  | _ :: _ :: _, [], h => h.elim
theorem NX.snoc {D : Addr} {H : Hp} {n f r t : Nat} {L : List Int} {p q a : Addr} {z : Int} (h1 : p ≠ D) (h2 : H p = some (.lst (sucs n f r t L z))) (h3 : a ≠ D) (h4 : H q = some (.tup [.int (flN t r L.length : Nat), .ref a])) (h5 : LT H a (ownsL n f r t (rmv L z))) :
    ∀ {ps : List Addr} {zs : List Int}, NX D H n f r t L ps zs → NX D H n f r t L (ps ++ [p, q]) (zs ++ [z])
  | [], [], _ => ⟨⟨h1, h2⟩, ⟨a, h3, h4, h5⟩, trivial⟩
  | x :: y :: ps, w :: zs, ⟨i1, i2, i3⟩ => ⟨i1, i2, NX.snoc h1 h2 h3 h4 h5 i3⟩
  | [], _ :: _, h => h.elim
  | [_], [], h => h.elim
  | [_], _ :: _, h => h.elim
  | _ :: _ :: _, [], h => h.elim
theorem NX.len {D : Addr} {H : Hp} {n f r t : Nat} {L : List Int} : ∀ {ps : List Addr} {zs : List Int}, NX D H n f r t L ps zs → ps.length = 2 * zs.length
  | [], [], _ => rfl
  | x :: y :: ps, w :: zs, ⟨i1, i2, i3⟩ => by
    have := NX.len i3
    show ps.length + 1 + 1 = 2 * (zs.length + 1)
    omega
  | [], _ :: _, h => h.elim
  | [_], [], h => h.elim
  | [_], _ :: _, h => h.elim
  | _ :: _ :: _, [], h => h.elim
def ndL (n f r t : Nat) (L : List Int) : List Int → List PyData
  | [] => []
  | z :: zs => .list ((sucs n f r t L z).map vD) :: .tuple [.int (flN t r L.length : Nat), .list ((ownsL n f r t (rmv L z)).map tupD)] :: ndL n f r t L zs
theorem NX.dp {K : PySem.W.Frag} {D : Addr} {H : Hp} {n f r t : Nat} {L : List Int} : ∀ {ps : List Addr} {zs : List Int}, NX D H n f r t L ps zs → DpAll K H (ps.map V.ref) (ndL n f r t L zs)
  | [], [], _ => .nil
  | x :: y :: ps, w :: zs, ⟨⟨h1, h2⟩, ⟨a, h3, h4, h5⟩, i3⟩ =>
    .cons (.lst (SqL.of h2) (dp_sucs _ fun v hv => by
      obtain ⟨i, _, rfl⟩ := List.mem_map.mp hv
      exact suc_kind _ _ _ _ _ _ _)) (.cons (.tup (SqT.of h4) (.cons (.int _) (.cons h5.dp .nil))) (NX.dp i3))
  | [], _ :: _, h => h.elim
  | [_], [], h => h.elim
  | [_], _ :: _, h => h.elim
  | _ :: _ :: _, [], h => h.elim
theorem shp_ndL (n f r t : Nat) (L : List Int) : ∀ (zs : List Int), ∀ d ∈ ndL n f r t L zs, Shp 3 d
  | [], d, h => by cases h
  | z :: zs, d, h => by
    rcases List.mem_cons.mp h with rfl | h
    · refine (shp_list (k := 0) fun d hd => ?_).mono (by decide)
      obtain ⟨v, hv, rfl⟩ := List.mem_map.mp hd
      cases v <;> first | exact shp_int 0 _ | exact shp_none 0
    · rcases List.mem_cons.mp h with rfl | h
      · refine shp_tup (k := 2) fun d hd => ?_
        simp only [List.mem_cons, List.not_mem_nil, or_false] at hd
        rcases hd with rfl | rfl
        · exact shp_int _ _
        · exact shp_owns 0 _
      · exact shp_ndL n f r t L zs d h
def ndD (n f r t : Nat) (L : List Int) : PyData := .list (ndL n f r t L L)
theorem shp_ndD (n f r t : Nat) (L : List Int) : SeqAt.shaped (ndD n f r t L) = true := (shp_list (k := 3) (shp_ndL n f r t L L)).ok (by decide)
def ND (H : Hp) (q : Addr) (n f r t : Nat) (L : List Int) : Prop := ∃ ps, H q = some (.lst (ps.map V.ref)) ∧ NX q H n f r t L ps L
theorem ND.dp {K : PySem.W.Frag} {H : Hp} {q : Addr} {n f r t : Nat} {L : List Int} (h : ND H q n f r t L) : Dp K H (.ref q) (ndD n f r t L) := let ⟨_, h1, h2⟩ := h; .lst (SqL.of h1) h2.dp
theorem ND.same {H H' : Hp} {q : Addr} {n f r t : Nat} {L : List Int} (h : ND H q n f r t L) (e : Same H H') : ND H' q n f r t L := let ⟨ps, h1, h2⟩ := h; ⟨ps, e _ _ h1, h2.up h1 fun b o _ q => e b o q⟩
end EF
namespace EF
open PySem PySem.Spec PyProof.Rows L2
local macro_rules | `(tactic| walk_at "rd") => `(tactic| repeat (first
  | refine ⟨_, rfl, ?_⟩ | refine ⟨rfl, ?_⟩ | refine ⟨_, _, rfl, ?_⟩ | refine ⟨_, _, rfl, rfl, ?_⟩ | refine ⟨_, _, _, rfl, ?_⟩ | refine ⟨_, _, _, rfl, rfl, rfl, ?_⟩ | refine ⟨_, _, _, _, rfl, ?_⟩ | refine ⟨_, _, _, _, rfl, rfl, rfl, rfl, ?_⟩ | refine ⟨_, _, _, _, _, rfl, ?_⟩))
section
variable {P : Program} {w : World} {K : PySem.W.Frag} {mg : Str → Option Value} {base : Heap}
abbrev sp__law_next_told (K : PySem.W.Frag) : Sp := sp3 fun x y z H Q => ∃ (k : CA) (n f r t : Nat) (g : List Int) (dn : List (Int × Int)) (u : Addr) (L : List Int), x = .ref k.c ∧ y = .int t ∧ z = .ref u ∧ Clu K H k n f r t g dn ∧ Good n f r t ∧ GG n f g ∧ TI H u L ∧ oth n g = L ∧ g.length < f ∧ dn.length ≤ 1000 ∧
  ∀ q H', Same H H' → H q = none → ND H' q n f r t L → Q (.ref q) H'
abbrev N__law_next_told : List Str := ["_law_cluster", "_law_total", "_law_up_here", "_law_found", "_law_server", "_law_other", "_law_number"]
theorem sc__law_next_told : FnScope N__law_next_told ["_law_cluster", "_law_total", "_law_up_here"] (defScope s__law_next_told) := ⟨rfl, rfl, rfl, by decide +kernel, rfl, by decide +kernel, by decide +kernel⟩
theorem ok__law_next_told (T : Tx K mg) : C8.Cal P w K mg base 10 "_law_next_told" (sp__law_next_told K) [] := by
  have m_owners := ok_C_owners (P := P) (w := w) (K := K) (mg := mg) (base := base) T
  have m_fail := ok_C_fail (P := P) (w := w) (K := K) (mg := mg) (base := base) T
  have m_copy := ok_C_copy (P := P) (w := w) (K := K) (mg := mg) (base := base) T
  have m_successor := ok_C_successor (P := P) (w := w) (K := K) (mg := mg) (base := base) T
  refine calD (k := 9) (N := N__law_next_told) (ps := ["_law_cluster", "_law_total", "_law_up_here"]) T.g__law_next_told T.f__law_next_told (fun _ _ _ _ _ _ us hl => match us, hl with | [_, _, _], _ => rfl) sc__law_next_told len3 (fun cdv A outer s H vs Q E hr h => ?_)
  obtain ⟨x1, x2, x3, rfl, h⟩ := h
  refine ⟨_, (pss_cons (ps_set (i := 3) sc__law_next_told.nd rfl (Or.inl rfl) (pe_lst pa_nil))
    (pss_cons (ps_for PassesOwn.never rfl (pi_tup (pv 2)) (pg_name (i := 4) sc__law_next_told.nd rfl (Or.inr rfl))
    (pss_cons (ps_expr (pe_bm PySem.F.plainAttrs_list PySem.F.slot_list_append PySem.F.type_list_append mt_append (pv 3) (pa_cons (pe_lc (own := [("_law_number", 6)]) (g := gName 6) (tt := tYes) rfl sc__law_next_told.nd (pi_range1 (by rfl) T.n_range (pa_cons (pv 1) pa_nil)) (blkOk_by (own := [("_law_number", 6)]) (N := N__law_next_told) (sc := defScope s__law_next_told) (by decide +kernel)) (fun _ _ _ _ _ => pg_name (i := 6) sc__law_next_told.nd rfl (Or.inl rfl)) (fun _ _ _ _ _ => pts_nil) (fun _ _ _ _ _ => (C8.pe_mt m_successor hr (by decide) (pv 0) (pa_cons (pv 6) (pa_cons (pv 4) pa_nil))))) pa_nil)))
      (pss_cons (ps_set (i := 5) sc__law_next_told.nd rfl (Or.inr rfl) (C8.pe_mt0 m_copy hr (by decide) (pv 0)))
      (pss_one (ps_expr (pe_bm PySem.F.plainAttrs_list PySem.F.slot_list_append PySem.F.type_list_append mt_append (pv 3) (pa_cons (pe_tup (pa_cons (C8.pe_mt m_fail hr (by decide) (pv 5) (pa_cons (pv 4) pa_nil)) (pa_cons (pe_lc (own := [("_law_number", 6)]) (g := gName 6) (tt := tYes) rfl sc__law_next_told.nd (pi_range1 (by rfl) T.n_range (pa_cons (pv 1) pa_nil)) (blkOk_by (own := [("_law_number", 6)]) (N := N__law_next_told) (sc := defScope s__law_next_told) (by decide +kernel)) (fun _ _ _ _ _ => pg_name (i := 6) sc__law_next_told.nd rfl (Or.inl rfl)) (fun _ _ _ _ _ => pts_nil) (fun _ _ _ _ _ => (C8.pe_mt m_owners hr (by decide) (pv 5) (pa_cons (pv 6) pa_nil)))) pa_nil))) pa_nil)))))))
    (pss_one (ps_ret (pv 3))))), ?_⟩
  obtain ⟨k, n, f, r, t, g, dn, u, L, rfl, rfl, rfl, hC, hG, hgg, hu, hL, hgl, hdl, q⟩ := h
  have ht := hG.gt.all.2.2.2
  have g6 := hG.gt.n6
  have ol := oth_small (g := g) g6
  rw [hL] at ol
  walk_at "rd"
  refine ⟨Nat.zero_le _, fun D nD => ?_⟩
  walk_at "rd"
  have sD := sNew (o := .lst []) nD
  refine ⟨⟨_, SqT.of (sD _ _ hu)⟩, ?_⟩
  refine for_tup (K := K) (a := u) (xs := L.map V.int) (fun i σ H' => ∃ (v4 v5 v6 : Option V) (ps : List Addr), σ = [some (.ref k.c), some (.int t), some (.ref u), some (.ref D), v4, v5, v6] ∧ Same H H' ∧ H' D = some (.lst (ps.map V.ref)) ∧ NX D H' n f r t L ps (L.take i)) ⟨none, none, none, [], rfl, sD, upd_same, trivial⟩ (fun i σ H' _ h => by obtain ⟨_, _, _, _, _, h, _⟩ := h; exact SqT.of (h _ _ hu)) ?_ ?_
  · rintro i x σ H1 hi ⟨v4, v5, v6, ps, rfl, sm1, hD1, hN⟩
    obtain ⟨z, hz, rfl⟩ := map_atF hi
    have hzL := List.mem_of_getElem? hz
    have hlen := hN.len
    rw [List.length_take] at hlen
    walk_at "rd"
    refine ⟨.inl ⟨rfl, _, SqL.of hD1⟩, ?_⟩
    walk_at "rd"
    refine ⟨by omega, by omega, fun P1 nP1 => lc_range (lo := 0) (n := ((t : Int)).toNat) (fun i H' => Same H1 H' ∧ H' P1 = some (.lst ((sucs n f r t L z).take i))) ⟨sNew nP1, upd_same⟩ ?_ ?_⟩
    · rintro j H' hj ⟨sm, hP⟩
      have hj2 : j < t := by omega
      refine ⟨rfl, ?_⟩
      rw [Int.zero_add]
      have hC1 := (hC.same sm1).same sm
      obtain ⟨dx, ts, h1, h2, h3, h4⟩ := id hC1
      walk_at "rd"
      refine ⟨_, _, _, rfl, h1, fl_no (by decide +kernel), ?_⟩
      walk_at "rd"
      refine ⟨k, n, f, r, t, g, dn, j, z, rfl, rfl, rfl, hC1, hG, hgg, hj2, by rw [hL]; exact hzL, hgl, fun H2 sm2 => ?_⟩
      refine ⟨_, sm2 _ _ hP, by rw [List.length_take, sucs_len]; exact small1000 (by omega), sPut (sm.trans sm2) nP1, ?_⟩
      rw [upd_same, take_snoc (sucs_at hj2)]
      unfold sucC sucL
      rw [hL]
    · rintro H2 ⟨sm2, hP⟩
      have e : (sucs n f r t L z).take ((t : Int)).toNat = sucs n f r t L z := List.take_of_length_le (by rw [sucs_len]; omega)
      rw [e] at hP
      have hD2 := sm2 _ _ hD1
      have nPD : P1 ≠ D := fun e => by rw [e, hD1] at nP1; cases nP1
      have hN2 := hN.up hD1 (H' := H2) fun b o _ e => sm2 _ _ e
      walk_at "rd"
      refine ⟨_, _, _, rfl, rfl, hD2, by rw [List.length_map]; exact small1000 (by omega), ?_⟩
      have up3 : ∀ b o, b ≠ D → H2 b = some o → (upd H2 D (.lst (ps.map V.ref ++ [.ref P1]))) b = some o := fun b o n e => (upd_ne n).trans e
      have hN3 := hN2.up hD2 up3
      have hP3 := up3 _ _ nPD hP
      have sm3 : Same H (upd H2 D (.lst (ps.map V.ref ++ [.ref P1]))) := sPut (sm1.trans sm2) nD
      have hD3 : (upd H2 D (.lst (ps.map V.ref ++ [.ref P1]))) D = some (.lst (ps.map V.ref ++ [.ref P1])) := upd_same
      generalize upd H2 D (.lst (ps.map V.ref ++ [.ref P1])) = H3 at *
      have hC3 := hC.same sm3
      obtain ⟨dx, ts, h1, h2, h3, h4⟩ := id hC3
      walk_at "rd"
      refine ⟨_, _, _, rfl, h1, fl_no (by decide +kernel), ?_⟩
      walk_at "rd"
      refine ⟨k, n, f, r, t, g, dn, rfl, hC3, hG, fun k' H4 sm4 nc ndd ndl hC4 => ?_⟩
      have hD4 := sm4 _ _ hD3
      walk_at "rd"
      refine ⟨.inl ⟨rfl, _, SqL.of hD4⟩, ?_⟩
      obtain ⟨dx2, ts2, j1, j2, j3, j4⟩ := id hC4
      walk_at "rd"
      refine ⟨_, _, _, rfl, j1, fl_no (by decide +kernel), ?_⟩
      walk_at "rd"
      have hzo : z ∈ oth n g := by rw [hL]; exact hzL
      have zo := mem_oth.mp hzo
      have gg5 := hgg.app zo.2 zo.1.1 zo.1.2 hgl
      refine ⟨k', n, f, r, t, g, dn, z, rfl, rfl, hC4, hG, hgg, hzo, hgl, hdl, fun H5 kp5 hC5 => ?_⟩
      have sm5 : Same H3 H5 := Same.kp sm4 kp5 fun b hb => by
        simp only [List.mem_cons, List.not_mem_nil, or_false] at hb
        rcases hb with rfl | rfl
        · exact ndd
        · exact ndl
      have hD5 := sm5 _ _ hD3
      walk_at "rd"
      refine ⟨by omega, by omega, fun A1 nA => lc_range (lo := 0) (n := ((t : Int)).toNat) (fun i H' => Same H5 H' ∧ LT H' A1 ((ownsL n f r t (rmv L z)).take i)) ⟨sNew nA, [], upd_same, trivial⟩ ?_ ?_⟩
      · rintro j H' hj ⟨sm, ps2, hA, hp⟩
        have hj2 : j < t := by omega
        refine ⟨rfl, ?_⟩
        rw [Int.zero_add]
        have hC6 := hC5.same sm
        obtain ⟨dx, ts, h1, h2, h3, h4⟩ := id hC6
        walk_at "rd"
        refine ⟨_, _, _, rfl, h1, fl_no (by decide +kernel), ?_⟩
        walk_at "rd"
        refine ⟨k', n, f, r, t, g ++ [z], _, j, rfl, rfl, hC6, hG, gg5, hj2, fun p H7 sm7 np hT => ?_⟩
        rw [oth_app, hL] at hT
        have hl := hp.len
        rw [List.length_take, owns_len] at hl
        have hA2 := sm7 _ _ hA
        refine ⟨_, hA2, by rw [List.length_map, hl]; exact small1000 (by omega), sPut (sm.trans sm7) nA, ps2 ++ [p], ?_, ?_⟩
        · rw [upd_same, List.map_append]; rfl
        · rw [take_snoc (owns_at hj2)]
          refine PT.snoc ?_ (hp.up (tupKeep sm7 hA2))
          exact tupKeep (Same.refl _) hA2 _ _ hT
      · rintro H6 ⟨sm6, hA⟩
        have e : (ownsL n f r t (rmv L z)).take ((t : Int)).toNat = ownsL n f r t (rmv L z) := List.take_of_length_le (by rw [owns_len]; omega)
        rw [e] at hA
        have nAD : A1 ≠ D := fun e => by rw [e, hD5] at nA; cases nA
        refine ⟨by show 2 ≤ sizeLine; decide, fun q7 nq7 => ?_⟩
        rw [show flN t r (oth n g).length = flN t r L.length by rw [hL]]
        have s7 := sNew (o := .tup [.int (flN t r L.length : Nat), .ref A1]) nq7
        have hD7 := s7 _ _ (sm6 _ _ hD5)
        have sm37 : Same H3 (upd H6 q7 (.tup [.int (flN t r L.length : Nat), .ref A1])) := (sm5.trans sm6).trans s7
        have hN7 := hN3.up hD3 (H' := upd H6 q7 (.tup [.int (flN t r L.length : Nat), .ref A1])) fun b o _ e => sm37 _ _ e
        have hP7 := sm37 _ _ hP3
        have hA7 : LT (upd H6 q7 (.tup [.int (flN t r L.length : Nat), .ref A1])) A1 (ownsL n f r t (rmv L z)) := LT.same hA s7
        have hq7 : (upd H6 q7 (.tup [.int (flN t r L.length : Nat), .ref A1])) q7 = some (.tup [.int (flN t r L.length : Nat), .ref A1]) := upd_same
        have nqD : q7 ≠ D := fun e => by
          have h := hD7
          rw [← e, hq7] at h
          cases h
        have smA := sm3.trans sm37
        generalize upd H6 q7 (.tup [.int (flN t r L.length : Nat), .ref A1]) = H7 at *
        walk_at "rd"
        refine ⟨_, _, _, rfl, rfl, hD7, by rw [List.length_append, List.length_map]; exact small1000 (by show _ + 1 ≤ 1000; omega), ?_⟩
        have up8 : ∀ b o, b ≠ D → H7 b = some o → (upd H7 D (.lst (ps.map V.ref ++ [.ref P1] ++ [.ref q7]))) b = some o := fun b o n e => (upd_ne n).trans e
        refine ⟨_, _, _, ps ++ [P1, q7], rfl, sPut smA nD, ?_, ?_⟩
        · rw [upd_same, List.map_append, List.append_assoc]; rfl
        · rw [take_snoc hz]
          refine NX.snoc nPD (up8 _ _ nPD hP7) nAD (up8 _ _ nqD hq7) ?_ (hN7.up hD7 up8)
          obtain ⟨ps3, h5, h6⟩ := hA7
          exact ⟨ps3, up8 _ _ nAD h5, h6.up fun b ys e => up8 _ _ (fun e2 => by rw [e2, hD7] at e; cases e) e⟩
  · rintro σ H1 ⟨v4, v5, v6, ps, rfl, sm1, hD1, hN⟩
    rw [List.length_map, List.take_length] at hN
    walk_at "rd"
    exact q D H1 sm1 nD ⟨ps, hD1, hN⟩
end
end EF
namespace EF
open PySem PySem.Spec PyProof.Rows L2
theorem Clu.kpS {K : PySem.W.Frag} {H H' : Hp} {S : List Addr} {k : CA} {n f r t : Nat} {g : List Int} {dn : List (Int × Int)} (c : Clu K H k n f r t g dn) (kp : Kp S H H') (h1 : k.c ∉ S) (h2 : k.dd ∉ S) (h3 : k.dl ∉ S) (ht : ∀ b ∈ S, ∀ ys, H b ≠ some (.tup ys)) : Clu K H' k n f r t g dn := by
  obtain ⟨dx, ts, e1, e2, e3, e4⟩ := c
  exact ⟨dx, ts, kp _ _ h1 e1, kp _ _ h2 e2, kp _ _ h3 e3, e4.up fun b xs e => kp _ _ (fun m => ht b m xs e) e⟩
/-- two clusters that share no object -/
structure Apart (k1 k2 : CA) : Prop where
  dd : k1.dd ≠ k2.dd
  dl : k1.dl ≠ k2.dl
theorem Clu.no {K : PySem.W.Frag} {H : Hp} {k k2 : CA} {n f r t n2 f2 r2 t2 : Nat} {g g2 : List Int} {dn dn2 : List (Int × Int)} (c : Clu K H k n f r t g dn) (c2 : Clu K H k2 n2 f2 r2 t2 g2 dn2) (ap : Apart k k2) : k.c ∉ [k2.dd, k2.dl] ∧ k.dd ∉ [k2.dd, k2.dl] ∧ k.dl ∉ [k2.dd, k2.dl] ∧ ∀ b ∈ [k2.dd, k2.dl], ∀ ys, H b ≠ some (.tup ys) := by
  obtain ⟨dx, ts, e1, e2, e3, e4⟩ := c
  obtain ⟨dx', ts', i1, i2, i3, i4⟩ := c2
  refine ⟨fun m => ?_, fun m => ?_, fun m => ?_, fun b m ys => ?_⟩
  all_goals
    simp only [List.mem_cons, List.not_mem_nil, or_false] at m
    rcases m with m | m
  · rw [m, i2] at e1; cases e1
  · rw [m, i3] at e1; cases e1
  · exact ap.dd m
  · rw [m, i3] at e2; cases e2
  · rw [m, i2] at e3; cases e3
  · exact ap.dl m
  · rw [m, i2]; intro z; cases z
  · rw [m, i3]; intro z; cases z
theorem Clu.kp2 {K : PySem.W.Frag} {H H' : Hp} {k k2 : CA} {n f r t n2 f2 r2 t2 : Nat} {g g2 : List Int} {dn dn2 : List (Int × Int)} (c : Clu K H k n f r t g dn) (c2 : Clu K H k2 n2 f2 r2 t2 g2 dn2) (ap : Apart k k2) (kp : Kp [k2.dd, k2.dl] H H') : Clu K H' k n f r t g dn :=
  let ⟨h1, h2, h3, h4⟩ := c.no c2 ap
  c.kpS kp h1 h2 h3 h4
theorem Clu.kp3 {K : PySem.W.Frag} {H H' : Hp} {sa : Addr} {k k2 : CA} {n f r t n2 f2 r2 t2 : Nat} {g g2 : List Int} {dn dn2 : List (Int × Int)} (c : Clu K H k n f r t g dn) (c2 : Clu K H k2 n2 f2 r2 t2 g2 dn2) (st : ST H sa) (ap : Apart k k2) (kp : Kp [sa, k2.dd, k2.dl] H H') : Clu K H' k n f r t g dn := by
  obtain ⟨h1, h2, h3, h4⟩ := c.no c2 ap
  obtain ⟨s1, s2, s3⟩ := st_dl st c
  refine c.kpS kp ?_ ?_ ?_ ?_
  · intro m; rcases List.mem_cons.mp m with m | m
    · exact s3 m.symm
    · exact h1 m
  · intro m; rcases List.mem_cons.mp m with m | m
    · exact s2 m.symm
    · exact h2 m
  · intro m; rcases List.mem_cons.mp m with m | m
    · exact s1 m.symm
    · exact h3 m
  · intro b m; rcases List.mem_cons.mp m with m | m
    · obtain ⟨u, v, h⟩ := st
      intro ys z
      rw [m, h] at z; cases z
    · exact h4 b m
theorem oth_perm {n : Nat} {g p : List Int} (h : p.Perm g) : oth n p = oth n g := oth_same fun x => h.mem_iff
theorem oth3 (n : Nat) (g : List Int) : oth n (oth n (oth n g)) = oth n g := by
  unfold oth
  refine List.filter_congr fun x hx => ?_
  by_cases h : x ∈ g <;> simp [hx, h]
theorem oth2_len {n f : Nat} {g : List Int} (h : GG n f g) : (oth n (oth n g)).length = g.length := by
  have h1 := oth_len h.nd h.sub
  have h2 := oth_len (n := n) (ms := oth n g) (oth_nodup n g) fun x hx => (mem_oth.mp hx).1
  omega
theorem GG.oth2 {n f : Nat} {g : List Int} (h : GG n f g) : GG n f (oth n (oth n g)) := ⟨oth_nodup _ _, fun x hx => (mem_oth.mp hx).1, by rw [oth2_len h]; exact h.le⟩
theorem GG.take {n f : Nat} {g : List Int} {i : Nat} (h : GG n f g) : GG n f (g.take i) := ⟨h.nd.sublist (List.take_sublist i g), fun x hx => h.sub x (List.mem_of_mem_take hx), by rw [List.length_take]; exact Nat.le_trans (Nat.min_le_right _ _) h.le⟩
theorem nodup_at {g : List Int} {i : Nat} {z : Int} (nd : g.Nodup) (h : g[i]? = some z) : z ∉ g.take i := by
  intro m
  obtain ⟨j, hj, e⟩ := List.mem_iff_getElem.mp m
  rw [List.length_take] at hj
  rw [List.getElem_take] at e
  obtain ⟨h1, h2⟩ := List.getElem?_eq_some_iff.mp h
  have := (List.pairwise_iff_getElem.mp nd) j i (by omega) h1 (by omega)
  exact this (e.trans h2.symm)
/-- what stands from the third cluster on -/
structure WS (K : PySem.W.Frag) (H : Hp) (k1 k2 k3 : CA) (n f r t : Nat) (g p : List Int) (dn dn2 : List (Int × Int)) (ga da u : Addr) : Prop where
  c1 : Clu K H k1 n f r t g dn
  c2 : Clu K H k2 n f r t p dn2
  c3 : Clu K H k3 n f r t (oth n (oth n g)) []
  ga : LI H ga g
  da : LI H da (dn.map (·.1))
  u : TI H u (oth n g)
theorem WS.same {K : PySem.W.Frag} {H H' : Hp} {k1 k2 k3 : CA} {n f r t : Nat} {g p : List Int} {dn dn2 : List (Int × Int)} {ga da u : Addr} (h : WS K H k1 k2 k3 n f r t g p dn dn2 ga da u) (e : Same H H') : WS K H' k1 k2 k3 n f r t g p dn dn2 ga da u :=
  ⟨h.c1.same e, h.c2.same e, h.c3.same e, e _ _ h.ga, e _ _ h.da, e _ _ h.u⟩
end EF
namespace EF
open PySem PySem.Spec PyProof.Rows L2
local macro_rules | `(tactic| walk_at "rd") => `(tactic| repeat (first
  | refine ⟨_, rfl, ?_⟩ | refine ⟨rfl, ?_⟩ | refine ⟨_, _, rfl, ?_⟩ | refine ⟨_, _, rfl, rfl, ?_⟩ | refine ⟨_, _, _, rfl, ?_⟩ | refine ⟨_, _, _, rfl, rfl, rfl, ?_⟩ | refine ⟨_, _, _, _, rfl, ?_⟩ | refine ⟨_, _, _, _, rfl, rfl, rfl, rfl, ?_⟩ | refine ⟨_, _, _, _, _, rfl, ?_⟩))
section
variable {P : Program} {w : World} {K : PySem.W.Frag} {mg : Str → Option Value} {base : Heap}
open SX TL
theorem okF {nm qual : Str} {pr : Arguments} {bd : List Stmt} {sc : Scope} {f : Addr} {fd : FuncData} {N ps : List Str} {k : Nat} {sp : Sp} (F : FunD K nm qual pr bd sc [] [] f fd) (S : FnScope N ps sc)
    (len : ∀ vs H Q E, sp vs H Q E → vs.length = ps.length) (body : BodyOk P w K mg base qual bd sc f N k sp) : FnOk P w K mg base C8.CX0 (k + 1) f fd ps sp := by
  refine F.ok S len fun cdv A outer s H vs Q E hr hsp => ?_
  obtain ⟨t, h, q⟩ := body cdv A outer s H vs Q E hr hsp
  exact ⟨t, h.nox, q⟩
abbrev sp_law (K : PySem.W.Frag) : Sp := sp1 fun x H Q => ∃ (a : Addr) (ns : List Int), x = .ref a ∧ SqL K H a (ns.map V.int) ∧ ∀ H', Q (.bl true) H'
theorem neD_same {K : PySem.W.Frag} {H : Hp} {x y : V} {d : PyData} {Q : VK} (h1 : Dp K H x d) (h2 : Dp K H y d) (hs : SeqAt.shaped d = true) (q : Q (.bl false) H) : rNeD K x y H Q := by
  refine ⟨d, d, h1, h2, hs, hs, ?_⟩
  rw [SeqAt.eqv_refl _ (SeqAt.canLay_of_shaped hs)]
  exact q
theorem eqO {K : PySem.W.Frag} {H : Hp} {k1 k2 : CA} {n f r t : Nat} {g1 g2 : List Int} {dn1 dn2 : List (Int × Int)} (c1 : Clu K H k1 n f r t g1 dn1) (c2 : Clu K H k2 n f r t g2 dn2) (g6 : n ≤ 6) (e : oth n g1 = oth n g2) : DIns (Cc K) (RR K) (.ref k1.c) (.ref k2.c) H := by
  obtain ⟨dx, ts, h1, _⟩ := id c1
  obtain ⟨dx2, ts2, j1, _⟩ := id c2
  exact ⟨k1.c, k2.c, dx, dx2, _, _, rfl, rfl, h1, j1, k1, k2, n, f, r, t, g1, g2, dn1, dn2, rfl, rfl, c1, c2, g6, e⟩
/-- a fresh own object, then made -/
theorem made {H H2 : Hp} {K : PySem.W.Frag} {x dx dd dl : Addr} (nx : H x = none) (ndx : H dx = none) (nex : x ≠ dx) (kp : Kp [x] (upd (upd H dx (.own x)) x (.ins (Cc K) dx [])) H2) (ndd : (upd (upd H dx (.own x)) x (.ins (Cc K) dx [])) dd = none) (ndl : (upd (upd H dx (.own x)) x (.ins (Cc K) dx [])) dl = none) : Same H H2 ∧ H dd = none ∧ H dl = none := by
  have back : ∀ b, upd (upd H dx (.own x)) x (.ins (Cc K) dx []) b = none → H b = none := fun b e => by
    have nb : b ≠ x := fun z => by rw [z, upd_same] at e; cases e
    have nb2 : b ≠ dx := fun z => by rw [z, upd_ne nex.symm, upd_same] at e; cases e
    rw [upd_ne nb, upd_ne nb2] at e
    exact e
  refine ⟨fun b o e => kp b o (fun z => by rw [List.mem_singleton.mp z, nx] at e; cases e) (by rw [upd_ne (ne_of_none e nx), upd_ne (ne_of_none e ndx)]; exact e), back _ ndd, back _ ndl⟩
abbrev N_law : List Str := ["_law_script", "_law_k", "_law_stream_here", "_law_sizes_here", "_law_n", "_law_down", "_law_copies_of", "_law_total", "_law_first", "_law_second", "_law_gone", "_law_done", "_law_server", "_law_third", "_law_up_here", "_law_due", "_law_told_here", "_law_order_here"]
theorem sc_law : FnScope N_law ["_law_script"] (defScope s_law) := ⟨rfl, rfl, rfl, by decide +kernel, rfl, by decide +kernel, by decide +kernel⟩
theorem ok_law (T : Tx K mg) {fd : FuncData} (F : FunD K "law" "law" (defArgs s_law) (defBody s_law) (defScope s_law) [] [] (He.ga K "law") fd) : FnOk P w K mg base C8.CX0 11 (He.ga K "law") fd ["_law_script"] (sp_law K) := by
  have c__law_next_told := ok__law_next_told (P := P) (w := w) (K := K) (mg := mg) (base := base) T
  have m_changes := ok_C_changes (P := P) (w := w) (K := K) (mg := mg) (base := base) T
  have c__law_told := ok__law_told (P := P) (w := w) (K := K) (mg := mg) (base := base) T
  have c__law_orders := ok__law_orders (P := P) (w := w) (K := K) (mg := mg) (base := base) T
  have c__law_owned := ok__law_owned (P := P) (w := w) (K := K) (mg := mg) (base := base) T
  have c__law_up := ok__law_up (P := P) (w := w) (K := K) (mg := mg) (base := base) T
  have c_read_cluster := ok_read_cluster (P := P) (w := w) (K := K) (mg := mg) (base := base) T
  have c_show_cluster := ok_show_cluster (P := P) (w := w) (K := K) (mg := mg) (base := base) T
  have c__law_shuffled := ok__law_shuffled (P := P) (w := w) (K := K) (mg := mg) (base := base) T
  have m_fail := ok_C_fail (P := P) (w := w) (K := K) (mg := mg) (base := base) T
  have c__law_moves := ok__law_moves (P := P) (w := w) (K := K) (mg := mg) (base := base) T
  have c__law_draw := ok__law_draw (P := P) (w := w) (K := K) (mg := mg) (base := base) T
  have k_init := ok_C_init (P := P) (w := w) (K := K) (mg := mg) (base := base) T
  have c__law_sizes := ok__law_sizes (P := P) (w := w) (K := K) (mg := mg) (base := base) T
  have c__law_stream := ok__law_stream (P := P) (w := w) (K := K) (mg := mg) (base := base) T
  refine okF (k := 10) (N := N_law) (ps := ["_law_script"]) F sc_law len1 (fun cdv A outer s H vs Q E hr h => ?_)
  obtain ⟨x1, rfl, h⟩ := h
  obtain ⟨fdE, FE, bE, kE⟩ := ok_C_eq (P := P) (w := w) (K := K) (mg := mg) (base := base) T
  refine ⟨_, (pss_cons (ps_for PassesOwn.never rfl (pi_range1 (by rfl) T.n_range (pa_cons (pe_callB (call_max2 rfl) (by rfl) T.n_max (by decide +kernel) (pa_cons pe_int (pa_cons (pe_callB (call_min2 rfl) (by rfl) T.n_min (by decide +kernel) (pa_cons pe_int (pa_cons (pe_callB call_len_seq (by rfl) T.n_len PySem.boot_len (pa_cons (pv 0) pa_nil)) pa_nil))) pa_nil))) pa_nil)) (pg_name (i := 1) sc_law.nd rfl (Or.inl rfl))
    (pss_cons (ps_set (i := 2) sc_law.nd rfl (Or.inl rfl) (C8.pe_c c__law_stream hr (by decide) (by rfl) (pa_cons (pv 0) (pa_cons (pv 1) pa_nil))))
      (pss_cons (ps_set (i := 3) sc_law.nd rfl (Or.inl rfl) (C8.pe_c c__law_sizes hr (by decide) (by rfl) (pa_cons (pv 2) (pa_cons pe_int pa_nil))))
      (pss_cons (ps_asg (pv 3) (pg_tup rfl (pgs_cons (pg_name (i := 4) sc_law.nd rfl (Or.inl rfl)) (pgs_cons (pg_name (i := 5) sc_law.nd rfl (Or.inl rfl)) (pgs_cons (pg_name (i := 6) sc_law.nd rfl (Or.inr rfl)) (pgs_cons (pg_name (i := 7) sc_law.nd rfl (Or.inl rfl)) pgs_nil))))))
      (pss_cons (ps_par (i := 8) (j := 9) rfl sc_law.nd rfl rfl (by decide) rfl rfl (pa_cons (C8.pe_mk k_init hr (by decide) (by rfl) (pa_cons (pv 4) (pa_cons (pv 5) (pa_cons (pv 6) (pa_cons (pv 7) pa_nil))))) (pa_cons (C8.pe_mk k_init hr (by decide) (by rfl) (pa_cons (pv 4) (pa_cons (pv 5) (pa_cons (pv 6) (pa_cons (pv 7) pa_nil))))) pa_nil)) (by rfl))
      (pss_cons (ps_asg (C8.pe_c c__law_moves hr (by decide) (by rfl) (pa_cons (pv 2) (pa_cons (pv 8) (pa_cons (pv 4) (pa_cons (pv 5) (pa_cons (C8.pe_c c__law_draw hr (by decide) (by rfl) (pa_cons (pv 2) (pa_cons pe_int pa_nil))) pa_nil)))))) (pg_tup rfl (pgs_cons (pg_name (i := 10) sc_law.nd rfl (Or.inl rfl)) (pgs_cons (pg_name (i := 11) sc_law.nd rfl (Or.inl rfl)) pgs_nil))))
      (pss_cons (ps_for PassesOwn.never rfl (pi_list (C8.pe_c c__law_shuffled hr (by decide) (by rfl) (pa_cons (pv 2) (pa_cons (pv 10) pa_nil)))) (pg_name (i := 12) sc_law.nd rfl (Or.inl rfl))
      (pss_one (ps_expr (C8.pe_mt m_fail hr (by decide) (pv 9) (pa_cons (pv 12) pa_nil)))))
      (pss_cons (ps_asg (pe_tup (pa_cons (C8.pe_c c_read_cluster hr (by decide) (by rfl) (pa_cons (C8.pe_c c_show_cluster hr (by decide) (by rfl) (pa_cons (pv 8) pa_nil)) pa_nil)) (pa_cons (C8.pe_c c__law_up hr (by decide) (by rfl) (pa_cons (pv 4) (pa_cons (pv 10) pa_nil))) pa_nil))) (pg_tup rfl (pgs_cons (pg_name (i := 13) sc_law.nd rfl (Or.inl rfl)) (pgs_cons (pg_name (i := 14) sc_law.nd rfl (Or.inr rfl)) pgs_nil))))
      (pss_cons (ps_setLc (i := 15) (own := [("_law_order_here", 17)]) (g := gName 17) (tt := tYes) rfl sc_law.nd rfl rfl (sw_true rfl rfl rfl (by decide +kernel)) (pi_list (C8.pe_c c__law_orders hr (by decide) (by rfl) (pa_cons (pv 3) pa_nil))) (blkOk_by (own := [("_law_order_here", 17)]) (N := N_law) (sc := defScope s_law) (by decide +kernel)) (fun _ _ _ _ _ => pg_name (i := 17) sc_law.nd rfl (Or.inl rfl)) (fun _ _ _ _ _ => pts_nil) (fun _ _ _ _ _ => (C8.pe_c c__law_owned hr (by decide) (by rfl) (pa_cons (pv 17) (pa_cons (pv 14) (pa_cons (pv 6) pa_nil))))))
      (pss_cons (ps_set (i := 16) sc_law.nd rfl (Or.inl rfl) (C8.pe_c c__law_told hr (by decide) (by rfl) (pa_cons (pv 8) (pa_cons (pv 7) (pa_cons (pv 14) pa_nil)))))
      (pss_cons (ps_if (PW.pt (pw_or (pt_cmpR (op_neD hr.units) (pe_ix (ix_listK (K := K) rfl) (pv 16) pe_int (fun _ _ => rfl)) (pv 15) (nomark _)) (pw_or (pt_not (pt_cmpR (op_eqG (rcG_ins (E := C8.E0) FE T.m_eq.at_ T.m_eq.fn bE C8.pass0) (hr.mono (by decide))) (pv 8) (pv 9) (nomark _))) (pw_or1 (pt_not (pt_cmpR (op_eqG (rcG_ins (E := C8.E0) FE T.m_eq.at_ T.m_eq.fn bE C8.pass0) (hr.mono (by decide))) (pv 13) (pv 9) (nomark _)))))))
      (pss_one (ps_ret pe_bl))
      pss_nil)
      (pss_cons (ps_if (PW.pt (pw_or (pt_cmpR (op_neD hr.units) (C8.pe_c c__law_told hr (by decide) (by rfl) (pa_cons (pv 9) (pa_cons (pv 7) (pa_cons (pv 14) pa_nil)))) (pv 16) (nomark _)) (pw_or1 (pt_cmpR (op_neD hr.units) (C8.pe_c c__law_told hr (by decide) (by rfl) (pa_cons (pv 13) (pa_cons (pv 7) (pa_cons (pv 14) pa_nil)))) (pv 16) (nomark _)))))
      (pss_one (ps_ret pe_bl))
      pss_nil)
      (pss_cons (ps_if (PW.pt (pw_or (pt_cmpR op_ne (C8.pe_mt0 m_changes hr (by decide) (pv 8)) (pe_callB call_len_seq (by rfl) T.n_len PySem.boot_len (pa_cons (pv 11) pa_nil)) (nomark _)) (pw_or (pt_cmpR op_ne (C8.pe_mt0 m_changes hr (by decide) (pv 9)) (pe_callB call_len_seq (by rfl) T.n_len PySem.boot_len (pa_cons (pv 10) pa_nil)) (nomark _)) (pw_or1 (pt_cmpR op_ne (C8.pe_mt0 m_changes hr (by decide) (pv 13)) pe_int (nomark _))))))
      (pss_one (ps_ret pe_bl))
      pss_nil)
      (pss_one (ps_if (pt_cmpR op_lt (pe_callB call_len_seq (by rfl) T.n_len PySem.boot_len (pa_cons (pv 10) pa_nil)) (pv 5) (nomark _))
      (pss_cons (ps_set (i := 16) sc_law.nd rfl (Or.inl rfl) (C8.pe_c c__law_next_told hr (by decide) (by rfl) (pa_cons (pv 8) (pa_cons (pv 7) (pa_cons (pv 14) pa_nil)))))
        (pss_one (ps_if (PW.pt (pw_or (pt_cmpR (op_neD hr.units) (C8.pe_c c__law_next_told hr (by decide) (by rfl) (pa_cons (pv 9) (pa_cons (pv 7) (pa_cons (pv 14) pa_nil)))) (pv 16) (nomark _)) (pw_or1 (pt_cmpR (op_neD hr.units) (C8.pe_c c__law_next_told hr (by decide) (by rfl) (pa_cons (pv 13) (pa_cons (pv 7) (pa_cons (pv 14) pa_nil)))) (pv 16) (nomark _)))))
        (pss_one (ps_ret pe_bl))
        pss_nil)))
      pss_nil)))))))))))))))
    (pss_one (ps_ret pe_bl))), ?_⟩
  obtain ⟨a, ns, rfl, hS, q⟩ := h
  walk_at "rd"
  refine ⟨a, _, rfl, .inl hS, ?_⟩
  rw [List.length_map]
  walk_at "rd"
  refine ⟨by split <;> split <;> omega, by split <;> split <;> omega, for_range (fun i σ H' => Same H H' ∧ ∃ (v1 v2 v3 v4 v5 v6 v7 v8 v9 v10 v11 v12 v13 v14 v15 v16 v17 : Option V), σ = [some (.ref a), v1, v2, v3, v4, v5, v6, v7, v8, v9, v10, v11, v12, v13, v14, v15, v16, v17]) ⟨Same.refl _, none, none, none, none, none, none, none, none, none, none, none, none, none, none, none, none, none, rfl⟩ ?_ ?_⟩
  · rintro i σ H1 hi ⟨sm1, v1, v2, v3, v4, v5, v6, v7, v8, v9, v10, v11, v12, v13, v14, v15, v16, v17, rfl⟩
    have hi3 : i < 3 := by
      split at hi <;> split at hi <;> omega
    rw [Int.zero_add]
    walk_at "rd"
    refine ⟨a, i, ns, rfl, rfl, sm1.seq hS, by omega, fun sa H2 sm2 nsa hST2 => ?_⟩
    walk_at "rd"
    refine ⟨hST2, fun qs n f r t H3 hG kp3 hST3 nqs hqs => ?_⟩
    have sm3 : Same H1 H3 := Same.kp sm2 kp3 fun b hb => by rw [List.mem_singleton.mp hb]; exact nsa
    have g6 := hG.gt.n6
    have g2 := hG.gt.n2
    have fn := hG.fn
    have f1 := hG.f1
    have ht := hG.gt.all.2.2.2
    walk_at "rd"
    refine ⟨qs, _, rfl, SqT.of hqs, rfl, ?_⟩
    walk_at "rd"
    intro x dx nx ndx nex
    refine ⟨_, _, _, _, _, rfl, x, n, f, r, t, rfl, rfl, rfl, rfl, rfl, dx, upd_same, hG, fun dd dl H4 kp4 ndd ndl _ hC1 => ⟨rfl, ?_⟩⟩
    obtain ⟨sm4, nd1, nl1⟩ := made nx ndx nex.symm kp4 ndd ndl
    walk_at "rd"
    intro x2 dx2 nx2 ndx2 nex2
    refine ⟨_, _, _, _, _, rfl, x2, n, f, r, t, rfl, rfl, rfl, rfl, rfl, dx2, upd_same, hG, fun dd2 dl2 H5 kp5 ndd2 ndl2 _ hC2 => ⟨rfl, ?_⟩⟩
    obtain ⟨sm5, nd2, nl2⟩ := made nx2 ndx2 nex2.symm kp5 ndd2 ndl2
    have ap : Apart ⟨x2, dd2, dl2⟩ ⟨x, dd, dl⟩ := by
      obtain ⟨dx3, ts3, h1, h2, h3, h4⟩ := hC1
      exact ⟨(fun e => by
        have e : dd2 = dd := e
        have h2 : H4 dd = _ := h2
        rw [← e, nd2] at h2; cases h2), (fun e => by
        have e : dl2 = dl := e
        have h3 : H4 dl = _ := h3
        rw [← e, nl2] at h3; cases h3)⟩
    have fr1 : H1 x = none ∧ H1 dd = none ∧ H1 dl = none := ⟨sm3.free nx, sm3.free nd1, sm3.free nl1⟩
    have fr2 : H1 x2 = none ∧ H1 dd2 = none ∧ H1 dl2 = none := ⟨sm3.free (sm4.free nx2), sm3.free (sm4.free nd2), sm3.free (sm4.free nl2)⟩
    have hC1 := hC1.same sm5
    have hST5 := (hST3.same sm4).same sm5
    have hqs5 := sm5 _ _ (sm4 _ _ hqs)
    have smA : Same H1 H5 := (sm3.trans sm4).trans sm5
    generalize hk1 : (⟨x, dd, dl⟩ : CA) = k1 at *
    generalize hk2 : (⟨x2, dd2, dl2⟩ : CA) = k2 at *
    have x1e : x = k1.c := by rw [← hk1]
    have x2e : x2 = k2.c := by rw [← hk2]
    have fr1 : H1 k1.c = none ∧ H1 k1.dd = none ∧ H1 k1.dl = none := by rw [← hk1]; exact fr1
    have fr2 : H1 k2.c = none ∧ H1 k2.dd = none ∧ H1 k2.dl = none := by rw [← hk2]; exact fr2
    have ap : Apart k2 k1 := ap
    rw [x1e, x2e]
    clear hk1 hk2 x1e x2e
    walk_at "rd"
    refine ⟨hST5, by decide, by decide, fun d H6 d0 d1 kp6 hST6 => ?_⟩
    obtain ⟨m, rfl⟩ := Int.eq_ofNat_of_zero_le d0
    have hC1 := hC1.kp1 hST5 kp6
    have hC2 := hC2.kp1 hST5 kp6
    have nqsa : qs ≠ sa := fun e => by
      obtain ⟨u, v, h⟩ := hST5
      rw [e, h] at hqs5; cases hqs5
    have hqs6 := kp6 _ _ (fun z => nqsa (List.mem_singleton.mp z)) hqs5
    have smB : Same H1 H6 := Same.kp smA kp6 fun b hb => by rw [List.mem_singleton.mp hb]; exact nsa
    walk_at "rd"
    refine ⟨sa, k1, n, f, r, t, m, rfl, rfl, rfl, rfl, rfl, hST6, hC1, hG, by omega, fun q7 H7 da ga g dn hq7 mv hdl => ?_⟩
    obtain ⟨kp7, hST7, hC17, hga7, hda7, nga, nda, nad, ok⟩ := mv
    have gg := ok.gg
    have gle := gg.le
    have hC27 := hC2.kp3 hC1 hST6 ap kp7
    have hqs7 : H7 qs = some (.tup [.int (n : Nat), .int (f : Nat), .int (r : Nat), .int (t : Nat)]) := by
      refine kp7 _ _ (fun z => ?_) hqs6
      obtain ⟨dx3, ts3, h1, h2, h3, h4⟩ := hC1
      rcases List.mem_cons.mp z with e | z
      · exact nqsa e
      · simp only [List.mem_cons, List.not_mem_nil, or_false] at z
        rcases z with e | e
        · rw [e, h2] at hqs6; cases hqs6
        · rw [e, h3] at hqs6; cases hqs6
    have smC : Same H1 H7 := Same.kp smB kp7 fun b hb => by
      simp only [List.mem_cons, List.not_mem_nil, or_false] at hb
      rcases hb with e | e | e
      · rw [e]; exact nsa
      · rw [e]; exact fr1.2.1
      · rw [e]; exact fr1.2.2
    have nga2 : ga ≠ k2.dd ∧ ga ≠ k2.dl ∧ da ≠ k2.dd ∧ da ≠ k2.dl := by
      obtain ⟨dx3, ts3, h1, h2, h3, h4⟩ := hC2
      exact ⟨(fun e => by rw [e, h2] at nga; cases nga), (fun e => by rw [e, h3] at nga; cases nga), (fun e => by rw [e, h2] at nda; cases nda), (fun e => by rw [e, h3] at nda; cases nda)⟩
    clear hC1 hC2 hqs5 hqs6 kp7 kp6 kp3 hST2 hST3 hST5 smA
    walk_at "rd"
    refine ⟨q7, _, rfl, SqT.of hq7, rfl, ?_⟩
    walk_at "rd"
    refine ⟨sa, ga, g, rfl, rfl, hST7, hga7, by omega, fun qa p H8 kp8 hST8 nqa hqa perm => ?_⟩
    have pg := gg.perm perm.symm
    have pl := perm.length_eq
    have h8 : ∀ b o, b ≠ sa → H7 b = some o → H8 b = some o := fun b o n e => kp8 b o (fun z => n (List.mem_singleton.mp z)) e
    have ngsa : ga ≠ sa := fun e => by
      obtain ⟨u, v, h⟩ := hST6
      rw [e, h] at nga; cases nga
    have ndsa : da ≠ sa := fun e => by
      obtain ⟨u, v, h⟩ := hST6
      rw [e, h] at nda; cases nda
    have hga8 : LI H8 ga g := h8 _ _ ngsa hga7
    have hda8 : LI H8 da (dn.map (·.1)) := h8 _ _ ndsa hda7
    have hqs8 := h8 _ _ nqsa hqs7
    have hC18 := hC17.kp1 hST7 kp8
    have hC28 := hC27.kp1 hST7 kp8
    have smD : Same H1 H8 := Same.kp smC kp8 fun b hb => by rw [List.mem_singleton.mp hb]; exact nsa
    have nqa2 : qa ≠ k2.dd ∧ qa ≠ k2.dl := by
      obtain ⟨dx3, ts3, h1, h2, h3, h4⟩ := hC27
      exact ⟨(fun e => by rw [e, h2] at nqa; cases nqa), (fun e => by rw [e, h3] at nqa; cases nqa)⟩
    walk_at "rd"
    refine ⟨⟨_, SqL.of hqa⟩, ?_⟩
    refine for_list (K := K) (a := qa) (xs := p.map V.int) (fun j σ H' => Kp [k2.dd, k2.dl] H8 H' ∧ ∃ (dn2 : List (Int × Int)) (w12 : Option V), dn2.length = j ∧ Clu K H' k2 n f r t (p.take j) dn2 ∧ σ = [some (.ref a), some (.int i), some (.ref sa), some (.ref qs), some (.int n), some (.int f), some (.int r), some (.int t), some (.ref k1.c), some (.ref k2.c), some (.ref ga), some (.ref da), w12, v13, v14, v15, v16, v17]) ⟨Kp.refl _ _, [], _, rfl, hC28, rfl⟩ (fun j σ H' _ h => SqL.of (h.1 _ _ (no2 nqa2.1 nqa2.2) hqa)) ?_ ?_
    · rintro j x σ H' hj ⟨kp9, dn2, w12, rfl, hC9, rfl⟩
      obtain ⟨z, hz, rfl⟩ := map_atF hj
      obtain ⟨hj2, hz2⟩ := List.getElem?_eq_some_iff.mp hz
      obtain ⟨dx3, ts3, h1, h2, h3, h4⟩ := id hC9
      walk_at "rd"
      refine ⟨_, _, _, rfl, h1, fl_no (by decide +kernel), ?_⟩
      walk_at "rd"
      have zp := pg.sub z (List.mem_of_getElem? hz)
      refine ⟨k2, n, f, r, t, p.take dn2.length, dn2, z, rfl, rfl, hC9, hG, pg.take, mem_oth.mpr ⟨zp, nodup_at pg.nd hz⟩, by rw [List.length_take]; omega, by omega, fun H10 kp10 hC10 => ?_⟩
      rw [← take_snoc hz] at hC10
      exact ⟨kp9.trans kp10, _, _, by rw [List.length_append]; rfl, hC10, rfl⟩
    · rintro σ H9 ⟨kp9, dn2, w12, hdn2, hC29, rfl⟩
      rw [List.length_map] at hdn2 hC29
      rw [List.take_length] at hC29
      have hC19 := hC18.kp2 hC28 ⟨ap.dd.symm, ap.dl.symm⟩ kp9
      have hga9 : LI H9 ga g := kp9 _ _ (no2 nga2.1 nga2.2.1) hga8
      have hda9 : LI H9 da (dn.map (·.1)) := kp9 _ _ (no2 nga2.2.2.1 nga2.2.2.2) hda8
      have hqs9 : H9 qs = some (.tup [.int (n : Nat), .int (f : Nat), .int (r : Nat), .int (t : Nat)]) := by
        refine kp9 _ _ ?_ hqs8
        obtain ⟨dx3, ts3, h1, h2, h3, h4⟩ := hC28
        exact no2 (fun e => by rw [e, h2] at hqs8; cases hqs8) (fun e => by rw [e, h3] at hqs8; cases hqs8)
      have smE : Same H1 H9 := Same.kp smD kp9 fun b hb => by
        simp only [List.mem_cons, List.not_mem_nil, or_false] at hb
        rcases hb with e | e
        · rw [e]; exact fr2.2.1
        · rw [e]; exact fr2.2.2
      clear hC17 hC27 hC18 hC28 hqs7 hqs8 kp8 kp9 smB smC smD hga7 hga8 hda7 hda8 hST6 hST7
      walk_at "rd"
      refine ⟨k1, n, f, r, t, g, dn, rfl, hC19, hG, fun H10 sm10 => ?_⟩
      have o2 := oth2_len gg
      have el : (dN n (oth n g)).length = (oth n (oth n g)).length := by rw [dN_oth n (oth n g), List.length_map]
      walk_at "rd"
      refine ⟨hG, dN_srt _ _, fun d hd => dN_lt hd, by omega, fun k3 H11 sm11 nc3 ndd3 ndl3 hC3 => ?_⟩
      rw [← dN_oth] at hC3
      have smF : Same H9 H11 := sm10.trans sm11
      have hga11 := smF _ _ hga9
      walk_at "rd"
      refine ⟨n, ga, g, rfl, rfl, g6, SqL.of hga11, fun u H12 sm12 nu hu => ?_⟩
      refine ⟨by show 2 ≤ sizeLine; decide, fun p12 np12 => ?_⟩
      have s12 := sNew (o := .tup [.ref k3.c, .ref u]) np12
      refine ⟨p12, _, rfl, SqT.of upd_same, rfl, ?_⟩
      have smG : Same H9 (upd H12 p12 (.tup [.ref k3.c, .ref u])) := (smF.trans sm12).trans s12
      have ws : WS K (upd H12 p12 (.tup [.ref k3.c, .ref u])) k1 k2 k3 n f r t g p dn dn2 ga da u := ⟨hC19.same smG, hC29.same smG, (hC3.same sm12).same s12, smG _ _ hga9, smG _ _ hda9, s12 _ _ hu⟩
      have hqs13 := smG _ _ hqs9
      have smH : Same H1 (upd H12 p12 (.tup [.ref k3.c, .ref u])) := smE.trans smG
      generalize upd H12 p12 (.tup [.ref k3.c, .ref u]) = H13 at *
      clear hC19 hC29 hC3 hga9 hda9 hqs9 hga11
      walk_at "rd"
      refine ⟨qs, n, f, r, t, rfl, hqs13, hG, fun qo H14 sm14 nqo hqo => ?_⟩
      obtain ⟨os, ho1, ho2⟩ := hqo
      have ol := ho2.len
      rw [ords_len] at ol
      have hu14 := sm14 _ _ ws.u
      walk_at "rd"
      refine ⟨⟨_, SqL.of ho1⟩, fun D nD => lc_list (K := K) (a := qo) (xs := os.map V.ref) (fun j H' => Same H14 H' ∧ LT H' D ((ownsL n f r t (oth n g)).take j)) ⟨sNew nD, [], upd_same, trivial⟩ (fun j H' _ h => SqL.of (h.1 _ _ ho1)) ?_ ?_⟩
      · rintro j x H' hj ⟨sm, ps2, hA, hp⟩
        obtain ⟨y, hy, rfl⟩ := map_atF hj
        obtain ⟨o, hy2, hy3⟩ := ho2.at hy
        obtain ⟨hj2, _⟩ := List.getElem?_eq_some_iff.mp hy
        have hjt : j < t := by omega
        rw [ords_at hjt] at hy2
        cases hy2
        refine ⟨rfl, ?_⟩
        walk_at "rd"
        have gdn := hG.gt.dn
        have o6 := ord_len hG.gt hjt
        refine ⟨_, _, SqT.of (sm _ _ hy3), SqT.of (sm _ _ hu14), by omega, fun p7 H7 sm7 np hT => ?_⟩
        have hl := hp.len
        rw [List.length_take, owns_len] at hl
        have hA2 := sm7 _ _ hA
        refine ⟨_, hA2, by rw [List.length_map, hl]; exact small1000 (by omega), sPut (sm.trans sm7) nD, ps2 ++ [p7], ?_, ?_⟩
        · rw [upd_same, List.map_append]; rfl
        · rw [take_snoc (owns_at hjt)]
          refine PT.snoc ?_ (hp.up (tupKeep sm7 hA2))
          exact tupKeep (Same.refl _) hA2 _ _ hT
      · rintro H15 ⟨sm15, hD⟩
        rw [List.length_map, List.take_of_length_le (by rw [owns_len]; omega)] at hD
        have sm1315 := sm14.trans sm15
        have ws15 := ws.same sm1315
        have smI := smH.trans sm1315
        clear ws hu14 hqs13 sm14 sm15 sm1315 smH ho1 ho2
        walk_at "rd"
        refine ⟨k1, n, f, r, t, g, dn, u, _, rfl, rfl, rfl, ws15.c1, hG, gg, ws15.u, rfl, fun q1 H16 sm16 nq1 td1 => ?_⟩
        have ws16 := ws15.same sm16
        have hD16 := LT.same hD sm16
        have smJ := smI.trans sm16
        obtain ⟨a1, b1, c1, t1, t2, t3, t4⟩ := id td1
        walk_at "rd"
        refine ⟨q1, _, 0, _, rfl, rfl, SqL.of t1, atI_nat (j := 0) rfl, ?_⟩
        walk_at "rd"
        refine neD_same (LT.dp t2) (LT.dp hD16) ((shp_owns 0 _).ok (by decide)) ?_
        refine ⟨_, rfl, ?_⟩
        refine ifF rfl ?_
        walk_at "rd"
        refine ⟨eqO ws16.c1 ws16.c2 g6 (oth_perm perm).symm, fun H17 sm17 => ?_⟩
        have sm17 : Same H16 H17 := sm17
        have ws17 := ws16.same sm17
        walk_at "rd"
        refine ⟨eqO ws17.c3 ws17.c2 g6 ((oth3 n g).trans (oth_perm perm).symm), fun H18 sm18 => ?_⟩
        have sm18 : Same H17 H18 := sm18
        have ws18 := ws17.same sm18
        have td18 := (td1.same sm17).same sm18
        walk_at "rd"
        refine ⟨k2, n, f, r, t, p, dn2, u, oth n g, rfl, rfl, rfl, ws18.c2, hG, pg, ws18.u, oth_perm perm, fun q2 H19 sm19 nq2 td2 => ?_⟩
        have ws19 := ws18.same sm19
        have td19 := td18.same sm19
        walk_at "rd"
        refine neD_same td2.dp td19.dp (shp_tdD _ _ _ _ _) ?_
        refine ⟨_, rfl, ?_⟩
        refine ifF rfl ?_
        walk_at "rd"
        refine ⟨k3, n, f, r, t, oth n (oth n g), [], u, oth n g, rfl, rfl, rfl, ws19.c3, hG, gg.oth2, ws19.u, oth3 n g, fun q3 H20 sm20 nq3 td3 => ?_⟩
        have ws20 := ws19.same sm20
        have td20 := td19.same sm20
        walk_at "rd"
        refine neD_same td3.dp td20.dp (shp_tdD _ _ _ _ _) ?_
        refine ⟨_, rfl, ?_⟩
        refine ifF rfl ?_
        obtain ⟨dx1, ts1, e1, _⟩ := id ws20.c1
        obtain ⟨dx2, ts2, e2, _⟩ := id ws20.c2
        obtain ⟨dx3, ts3, e3, _⟩ := id ws20.c3
        have smK : Same H1 H20 := (((smJ.trans sm17).trans sm18).trans sm19).trans sm20
        walk_at "rd"
        refine ⟨_, _, _, rfl, e1, fl_no (by decide +kernel), ?_⟩
        walk_at "rd"
        refine ⟨k1, n, f, r, t, g, dn, rfl, ws20.c1, ?_⟩
        walk_at "rd"
        refine ⟨da, _, rfl, .inl (SqL.of ws20.da), ?_⟩
        rw [List.length_map, List.length_map]
        walk_at "rd"
        refine ifF (by simp) ?_
        walk_at "rd"
        refine ⟨_, _, _, rfl, e2, fl_no (by decide +kernel), ?_⟩
        walk_at "rd"
        refine ⟨k2, n, f, r, t, p, dn2, rfl, ws20.c2, ?_⟩
        walk_at "rd"
        refine ⟨ga, _, rfl, .inl (SqL.of ws20.ga), ?_⟩
        rw [List.length_map, hdn2, pl]
        walk_at "rd"
        refine ifF (by simp) ?_
        walk_at "rd"
        refine ⟨_, _, _, rfl, e3, fl_no (by decide +kernel), ?_⟩
        walk_at "rd"
        refine ⟨k3, n, f, r, t, oth n (oth n g), [], rfl, ws20.c3, ?_⟩
        walk_at "rd"
        refine ⟨ga, _, rfl, .inl (SqL.of ws20.ga), ?_⟩
        rw [List.length_map]
        walk_at "rd"
        have fin : ∀ H' σ, Same H20 H' → (∃ (v1 v2 v3 v4 v5 v6 v7 v8 v9 v10 v11 v12 v13 v14 v15 v16 v17 : Option V), σ = [some (.ref a), v1, v2, v3, v4, v5, v6, v7, v8, v9, v10, v11, v12, v13, v14, v15, v16, v17]) → Same H H' ∧ ∃ (v1 v2 v3 v4 v5 v6 v7 v8 v9 v10 v11 v12 v13 v14 v15 v16 v17 : Option V), σ = [some (.ref a), v1, v2, v3, v4, v5, v6, v7, v8, v9, v10, v11, v12, v13, v14, v15, v16, v17] := fun H' σ sm h => ⟨(sm1.trans smK).trans sm, h⟩
        refine ite2 (fun c => ?_) (fun c => ?_)
        · have c1 := of_decide_eq_true c
          have hgl : g.length < f := by omega
          walk_at "rd"
          refine ⟨k1, n, f, r, t, g, dn, u, oth n g, rfl, rfl, rfl, ws20.c1, hG, gg, ws20.u, rfl, hgl, by omega, fun q4 H21 sm21 nq4 nd4 => ?_⟩
          have ws21 := ws20.same sm21
          walk_at "rd"
          refine ⟨k2, n, f, r, t, p, dn2, u, oth n g, rfl, rfl, rfl, ws21.c2, hG, pg, ws21.u, oth_perm perm, by omega, by omega, fun q5 H22 sm22 nq5 nd5 => ?_⟩
          have ws22 := ws21.same sm22
          have nd42 := nd4.same sm22
          walk_at "rd"
          refine neD_same nd5.dp nd42.dp (shp_ndD _ _ _ _ _) ?_
          refine ⟨_, rfl, ?_⟩
          refine ifF rfl ?_
          walk_at "rd"
          refine ⟨k3, n, f, r, t, oth n (oth n g), [], u, oth n g, rfl, rfl, rfl, ws22.c3, hG, gg.oth2, ws22.u, oth3 n g, by omega, by simp, fun q6 H23 sm23 nq6 nd6 => ?_⟩
          have nd43 := nd42.same sm23
          walk_at "rd"
          refine neD_same nd6.dp nd43.dp (shp_ndD _ _ _ _ _) ?_
          refine ⟨_, rfl, ?_⟩
          refine ifF rfl ?_
          exact fin _ _ ((sm21.trans sm22).trans sm23) ⟨_, _, _, _, _, _, _, _, _, _, _, _, _, _, _, _, _, rfl⟩
        · exact fin _ _ (Same.refl _) ⟨_, _, _, _, _, _, _, _, _, _, _, _, _, _, _, _, _, rfl⟩
  · rintro σ H1 ⟨sm1, v1, v2, v3, v4, v5, v6, v7, v8, v9, v10, v11, v12, v13, v14, v15, v16, v17, rfl⟩
    walk_at "rd"
    exact q _
end
end EF
set_option maxHeartbeats 0
namespace EF
open PySem PySem.Spec PyProof.Rows L2
def names0 : List Str := ["FailoverError", "NoNumber", "NotPossible", "TooShort", "NoCluster", "NotLive", "NotDead", "TooFew", "NoUndo", "NoText", "is_integer", "is_integer_numbers", "binomial", "edge_divisor", "common_divisor"]
def names1 : List Str := ["common_multiple", "least_lists", "is_possible", "outside", "with_server", "look_at_count", "next_place", "walk", "list_at", "holders", "live_in", "successor", "successor_failures", "LEAST_SERVERS", "MOST_SERVERS"]
def names2 : List Str := ["is_integer_cluster", "Cluster", "DIGITS", "MOST_DIGITS", "integer_of", "integers_of", "blanks", "rows_of", "head_of", "show_cluster", "dead_of", "begun", "read_cluster", "_law_stream", "_law_draw"]
def names3 : List Str := ["_law_pick", "_law_shuffled", "_law_alive", "_law_comb", "_law_order", "_law_gcd", "_law_least", "_law_sizes", "_law_orders", "_law_owned", "_law_up", "_law_moves", "_law_told", "_law_next_told"]
abbrev AlM : Type := He.AlD × Bool
def obsM (K : PySem.W.Frag) : AlM := (He.obsD factsL defsL K, exB K)
def frM (g : Addr → Option Obj) : PySem.W.Frag := He.frG g (cStatics :: He.asD g 4)
def hookM : PySem.W.Hook where
  α := AlM
  obs := fun s => obsM (frM s.heap.get?)
  val := fun _ => (He.valD defsL, true)
  says := fun _ h => ∃ K : PySem.W.Frag, K.In h ∧ He.SaysD factsL defsL K ∧ exB K = true
  of := fun _ _ e => ⟨_, He.frG_in, congrArg Prod.fst e, congrArg Prod.snd e⟩
  keeps := fun _ _ _ ⟨K, hK, c⟩ k => ⟨K, PySem.W.Frag.In.keeps hK k, c⟩
abbrev RW : PySem.W.OpenRow := PySem.W.OpenLaw.row PySem.Challenge.rw_evenfailover_k87_whole_only_the_live_set
def obM (s : PySem.W.SharedT) : AlM := obsM (frM (HandSHeadRun.getT s))
theorem obM_eq (s : PySem.W.SharedT) : obM s = hookM.obs s.abs := by
  have e : HandSHeadRun.getT s = s.abs.heap.get? := funext fun a => HandSHeadRun.getT_eq s a
  show obsM (frM (HandSHeadRun.getT s)) = obsM (frM s.abs.heap.get?)
  rw [e]
theorem runM (w : World) : HandSHeadRun.RunEq RW (PySem.W.view RW.prog [69]) hookM obM 6000 (names0 ++ (names1 ++ (names2 ++ names3))) w := by
  intro os
  kernel_rfl
theorem facts {P : Program} {w : World} {K : PySem.W.Frag} {h : Heap} {mg : Str → Option Value} {f : Addr} (X : K.In h) (G : h.Ns mainGlobals mg) (hfa : mg ("law" : Str) = some (.ref f)) (c : He.SaysD factsL defsL K) (ex : exB K = true) :
    ∃ fd : FuncData, (∀ (s : Shared) (v : Value), BindsTo s fd ⟨[v], []⟩ [("_law_script", v)]) ∧ ∀ base : Heap, K.In base → base.Ns mainGlobals mg → FnOk P w K mg base C8.CX0 11 f fd ["_law_script"] (sp_law K) := by
  have T : Tx K mg := ⟨⟨h, X, G⟩, c, ex⟩
  obtain ⟨fd, F⟩ := T.f_law
  have e := hfa.symm.trans T.g_law
  cases e
  have b := FunD.bindsA (ps := ["_law_script"]) F fun _ _ _ _ _ _ us hl => match us, hl with | [_], _ => rfl
  exact ⟨fd, fun s v => b s [v] rfl, fun base _ _ => ok_law T F⟩
end EF
open PySem PySem.W PySem.Calls PyProof.Rows
theorem PySem.Challenge.cw_evenfailover_k87_whole_only_the_live_set_holds : PySem.Challenge.rw_evenfailover_k87_whole_only_the_live_set.Holds := by
  w_on; o_law
  refine HandSHeadRun.head_any (r := EF.RW) (q := view EF.RW.prog [69]) (H := EF.hookM) (ob := EF.obM) (M := 6000) (loose := EF.names0 ++ (EF.names1 ++ (EF.names2 ++ EF.names3))) (d := HandSHeadRun.topDef EF.RW.prog 69) (kwd := []) EF.obM_eq
    (by kernel_rfl) (fun s => by kernel_rfl) EF.runM (by kernel_rfl) (by kernel_rfl) (by kernel_rfl) (by rfl) (by first | assumption | decide +kernel) (by decide +kernel) ⟨rfl, rfl, rfl, rfl, rfl, by decide +kernel⟩ ?hw ?hc
  case hw => w_witness2
  case hc =>
    refine L2.walk_ofE (l := PySem.Challenge.rw_evenfailover_k87_whole_only_the_live_set) (n := 63) (k := 11) (x := "_law_script") (CX := C8.CX0) rfl (by decide) (by kernel_rfl) ⟨rfl, by decide, by decide⟩ ?F (fun _ _ _ _ z => z)
    intro w mg fa h Y G hmg0
    obtain ⟨K, KX, c, ex⟩ := Y
    have hmg : mg ("law" : PySem.Str) = some (.ref fa) := by
      have e : (HandSHeadRun.topDef EF.RW.prog 69).name = ("law" : PySem.Str) := by kernel_rfl
      rw [← e]
      exact hmg0
    obtain ⟨fd, hb, hF⟩ := EF.facts (P := (PySem.Challenge.rw_evenfailover_k87_whole_only_the_live_set).prog) (w := w) KX G hmg c ex
    exact ⟨K, fd, EF.sp_law K, KX, hb, fun H a ns hl _ hS => ⟨_, rfl, a, ns, rfl, hS, fun _ => rfl⟩, hF⟩

