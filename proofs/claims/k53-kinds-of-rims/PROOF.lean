import PyProof.Rows.All
import Wide.All
import OpenK.AllK
import Wide.FinOn
import HandS.ForMost
import HandS.SortInts
import HandS.Gcd
import HandS.Style
import HandS.FStr
import HandS.IsInst
import HandS.Codes
import HandS.Star
import HandS.Defaults
import HandS.MakeKwOnly
import HandS.Flow
import KE.KTupSum
import HandS.GenList
import PySem.Challenge.RW_combed_k53_whole_kinds_of_rims
import HandS.Conv
set_option Elab.async false
set_option linter.all false
set_option maxRecDepth 100000
set_option maxHeartbeats 1000000
/-! rules for a list or a tuple, whichever it is -/
namespace Ex
open PySem PySem.Spec PyProof.Rows L2

def SqA (K : PySem.W.Frag) (H : Hp) (a : Addr) (xs : List V) : Prop := SqL K H a xs ∨ SqT K H a xs
section
variable {prog : Program} {w : World} {A : Around} {E : Value → Shared → Prop} {s : Shared}
theorem collect_tup {l : Addr} {vs : List Value} {Q : List Value → Shared → Prop} (hl : s.heap.IsTuple l vs.toArray)
    (h : Q vs { s with heap := (s.heap.push (seqObj "list" #[] 0)).update s.heap.objs.size (Obj.mapSeq (· ++ vs.toArray)) }) (hsz : vs.length ≤ sizeLine) :
    wpAny (model prog w) A (collect (.ref l)) Q E s := by
  obtain ⟨o, ho, hc, n, hd⟩ := id hl
  unfold collect
  refine wpAny_bind (wpAny_runValue (codeAny_builtin entry_proto_collect' ?_))
  show wpAny _ _ (do again (.builtin "list.__iadd__" ⟨[← newList [], .ref l], []⟩)) _ _ s
  refine wpAny_bind (wpAny_newList (wpAny_pure ⟨Code.quiet_builtin _ (by decide +kernel), codeAny_builtin entry_list_iadd' ?_⟩))
  show wpAny _ _ (Builtin.List.listExtendWith (.ref s.heap.objs.size) (.ref l) (.ref s.heap.objs.size)) _ _ { s with heap := s.heap.push (seqObj "list" #[] 0) }
  unfold Builtin.List.listExtendWith
  have ho' : (s.heap.push (seqObj "list" #[] 0)).get? l = some o := Heap.get?_push_of_some _ ho
  refine wpAny_bind (wpAny_typeOf (T := "tuple") ⟨o, ho', hc⟩ ?_)
  have ht : (Value.type "tuple" == Value.type "tuple") = true := by rfl
  rw [if_pos (by rw [ht]; simp)]
  refine wpAny_bind (listItems_at ho' hd ?_)
  refine wpAny_bind (listItems_at (xs := #[]) (n := 0) (Heap.get?_push_size _ rfl) rfl ?_)
  rw [if_neg (by simp)]
  refine wpAny_bind (listUpdate_at (xs := #[]) (n := 0) (Heap.get?_push_size _ rfl) rfl ?_ (Nat.zero_le _) (by show (#[] ++ vs.toArray).size ≤ sizeLine + 1; simp only [Array.size_append, List.size_toArray, List.length_nil]; omega))
  refine wpAny_pure ?_
  show wpAny (model prog w) A (do
      let o ← load s.heap.objs.size
      match o.data with
      | .seq xs _ => pure xs.toList
      | _ => unsupported "internal:collect") Q E { s with heap := (s.heap.push (seqObj "list" #[] 0)).update s.heap.objs.size (Obj.mapSeq (· ++ vs.toArray)) }
  refine wpAny_bind (wpAny_load (get?_update_seq (Heap.get?_push_size _ rfl) _) ?_)
  show wpAny _ _ (pure ((#[] : Array Value) ++ vs.toArray).toList) Q E _
  rw [show ((#[] : Array Value) ++ vs.toArray).toList = vs by simp]
  exact wpAny_pure h
open SrtO in
theorem sorted_ordT {l : Addr} {vs : List Value} {ltv : Value → Value → Bool} {Q : Value → Shared → Prop} (O : Swo ltv) (hl : s.heap.IsTuple l vs.toArray) (hz : vs.length ≤ sizeLine)
    (hS : 2 ≤ vs.length → ∀ (h₁ : Heap) (a : Addr), h₁.get? a = some (seqObj "list" vs.toArray 0) → (∀ b o, s.heap.get? b = some o → b ≠ a ∧ h₁.get? b = some o) → SortableO prog w A.in1.in1 { s with heap := h₁ } a vs ltv)
    (h : ∀ out : List Value, Srtd ltv out → Stb ltv out vs → Q (.ref (s.heap.objs.size + 1)) { s with heap := sortedAll s.heap vs out.toArray }) :
    wpAny (model prog w) A (call (.builtin "sorted") [.ref l]) Q E s := by
  refine Calls.call_function_entry kind_sorted plain_sorted entry_sorted (args_sorted1 _) ?_
  unfold Builtin.«sorted»
  refine wpAny_bind (m := checkCount "sorted" 1 1 _) (wpAny_pure ?_)
  refine wpAny_bind (collect_tup hl ?_ hz)
  refine wpAny_bind (wpAny_newList ?_ hz)
  have hsz : ((s.heap.push (seqObj "list" #[] 0)).update s.heap.objs.size (Obj.mapSeq (· ++ vs.toArray))).objs.size = s.heap.objs.size + 1 := by
    rw [Heap.size_update, size_push']
  have hoL : (((s.heap.push (seqObj "list" #[] 0)).update s.heap.objs.size (Obj.mapSeq (· ++ vs.toArray))).push (seqObj "list" vs.toArray 0)).get? (s.heap.objs.size + 1) = some (seqObj "list" vs.toArray 0) := by
    rw [← hsz]; exact Heap.get?_push_size _ rfl
  have keep : ∀ b o, s.heap.get? b = some o → b ≠ s.heap.objs.size + 1 ∧ (((s.heap.push (seqObj "list" #[] 0)).update s.heap.objs.size (Obj.mapSeq (· ++ vs.toArray))).push (seqObj "list" vs.toArray 0)).get? b = some o := fun b o q => by
    have hlt : b < s.heap.objs.size := Heap.lt_size q
    refine ⟨Nat.ne_of_lt (Nat.lt_succ_of_lt hlt), Heap.get?_push_of_some _ ?_⟩
    rw [Heap.get?_update_ne _ _ _ _ (Nat.ne_of_lt hlt)]
    exact Heap.get?_push_of_some _ q
  show wpAny _ _ _ _ _ { s with heap := ((s.heap.push (seqObj "list" #[] 0)).update s.heap.objs.size (Obj.mapSeq (· ++ vs.toArray))).push (seqObj "list" vs.toArray 0) }
  rw [hsz]
  refine wpAny_bind (wpAny_holding (wpAny_call_entry slot_list_sort ⟨_, hoL, rfl⟩ entry_list_sort (list_sort_ord O hoL hz (fun h2 => hS h2 _ _ hoL keep) fun out hs hb => ⟨_, rfl, ?_⟩) (args_list_sort _)))
  exact wpAny_pure ⟨_, rfl, h out hs hb⟩
end
section
variable {X : Cx}
def rSortA (K : PySem.W.Frag) : List V → Hp → VK → Prop := fun vs H Q => ∃ (a : Addr) (ns : List Int), vs = [V.ref a] ∧ SqA K H a (ns.map V.int) ∧ ∀ (ns' : List Int) (p : Addr), ns'.Perm ns → ns'.Pairwise (· ≤ ·) → H p = none → Q (.ref p) (upd H p (.lst (ns'.map V.int)))
theorem cr_sortA : CallR X (.builtin "sorted") (rSortA X.K) := by
  intro pins s σ H vs us Q I r h
  obtain ⟨a, ns, rfl, hs | hs, q⟩ := h
  · exact cr_sortedI pins s σ H _ us Q I r ⟨a, ns, rfl, hs, q⟩
  · obtain ⟨its, rv, hl, hz⟩ := I.tuple hs
    rw [Vals.ref1 r]
    have hi := rv.ints
    refine sorted_ordT SrtO.swo_int (show s.heap.IsTuple a its.toArray from hl) (by rw [← rv.length]; exact hz) (fun h2 h₁ a' _ _ => SrtO.ints_sortable hi h2) fun out h1 h2 => ?_
    obtain ⟨k1, k2, k3⟩ := SrtO.ints_out hi h1 h2
    obtain ⟨ep, he'⟩ := PyProof.Rows.sortedAll_at s.heap its out.toArray
    have hlen : ((out.map SrtO.iv).map V.int).length ≤ sizeLine := by
      rw [List.length_map, k2.length_eq]
      rw [List.length_map] at hz
      exact hz
    exact ⟨.ref _, upd H (s.heap.objs.size + 1) (.lst ((out.map SrtO.iv).map V.int)), I.laid (t' := s.toks) (fun _ _ => PyProof.Rows.sortedAll_old) (Nat.le_succ _) ⟨hlen, out, ep, vals_of_ints k1, he'⟩, rfl, q _ _ k2 k3 (I.hok.fresh (Nat.le_succ _))⟩
def rSumA (K : PySem.W.Frag) : List V → Hp → VK → Prop := fun vs H Q => ∃ (a : Addr) (ns : List Int), vs = [V.ref a] ∧ SqA K H a (ns.map V.int) ∧ Q (.int ns.sum) H
theorem cr_sumA (hc : X.calm = true) : CallR X (.builtin "sum") (rSumA X.K) := by
  intro pins s σ H vs us Q I r h
  obtain ⟨a, ns, rfl, hs | hs, q⟩ := h
  · exact cr_sum hc pins s σ H _ us Q I r ⟨a, ns, rfl, hs, q⟩
  · obtain ⟨its, rv, hl, hz⟩ := I.tuple hs
    rw [Vals.ref1 r]
    obtain ⟨xs, hx⟩ := rv.ints.allInts.items
    have hn : numsOf its.toArray.toList = ns := by rw [show its.toArray.toList = its from rfl, rv.ints.numsOf]
    have hl' : s.heap.IsTuple a its.toArray := hl
    rw [hx] at hl' hn
    rw [nums_intItems] at hn
    refine PySem.W.ktm_sumG (I.ok.hd hc) hl' fun h' tk t' hk => ?_
    refine ⟨.int ns.sum, H, I.kept hk, ⟨t', ?_⟩, q⟩
    rw [preSum_eq, List.take_of_length_le (by simp), hn]
/-- for x in .. a list or a tuple -/
def iSeq (K : PySem.W.Frag) (tl : TE) : TI := fun σ H R => tl σ H fun x H1 => ∃ a, x = .ref a ∧ (((∃ xs, SqL K H1 a xs) ∧ R (Itl K a) H1) ∨ ((∃ xs, SqT K H1 a xs) ∧ R (Itt K a) H1))
theorem pi_seq {tg l : Expr} {tl : TE} (hl : PE X l tl) : PI X tg l (iSeq X.K tl) := by
  refine ⟨fun pins s σ H R I h => ?_⟩
  refine thn (hl.run pins s σ H _ I h) fun v s1 ⟨x, H1, I1, r1, q1⟩ => ?_
  obtain ⟨a, e, q⟩ := q1
  subst e
  cases r1
  rcases q with ⟨⟨xs, hq⟩, q⟩ | ⟨⟨xs, hq⟩, q⟩
  · obtain ⟨its, rv, p, hz⟩ := I1.list hq
    refine wpAny_pyIter_list p.isList ?_
    refine ⟨s1.heap.objs.size, [s1.heap.objs.size], _, _, H1, rfl, I1.kept (t' := s1.toks) fun b o e => Heap.get?_push_of_some _ e, turn_list a _, ⟨_, Heap.get?_push_size _ rfl, rfl, rfl⟩, fun b hb => ?_, q⟩
    have e : b = s1.heap.objs.size := by simpa using hb
    subst e
    exact I1.fpOk (Nat.le_refl _) (I1.hok.fresh (Nat.le_refl _))
  · obtain ⟨its, rv, p, hz⟩ := I1.tuple hq
    refine wpAny_pyIter_tuple (show s1.heap.IsTuple a its.toArray from p) ?_
    refine ⟨s1.heap.objs.size, [s1.heap.objs.size], _, _, H1, rfl, I1.kept (t' := s1.toks) fun b o e => Heap.get?_push_of_some _ e, turn_tuple a _, ⟨_, Heap.get?_push_size _ rfl, rfl, rfl⟩, fun b hb => ?_, q⟩
    have e : b = s1.heap.objs.size := by simpa using hb
    subst e
    exact I1.fpOk (Nat.le_refl _) (I1.hok.fresh (Nat.le_refl _))
end
end Ex
set_option Elab.async false
set_option linter.all false
set_option maxRecDepth 100000
set_option maxHeartbeats 1000000
namespace GF
open PySem PySem.Spec PyProof.Rows L2 GenW

/-! ### the heap, cut to its first objects -/
def cutH (h : Heap) (n : Nat) : Heap := { h with objs := h.objs.extract 0 n }
theorem cutH_at {h : Heap} {n b : Nat} (hb : b < n) : (cutH h n).objs[b]? = h.objs[b]? := by
  unfold cutH
  rw [Array.getElem?_extract]
  by_cases hz : b < h.objs.size
  · rw [if_pos (by omega), Nat.zero_add]
  · rw [if_neg (by omega)]
    exact (Array.getElem?_eq_none (by omega)).symm
theorem cutH_get {h : Heap} {n b : Nat} (hb : b < n) : (cutH h n).get? b = h.get? b := by
  unfold Heap.get?
  rw [cutH_at hb]
theorem cutH_size {h : Heap} {n : Nat} (hn : n ≤ h.objs.size) : (cutH h n).objs.size = n := by
  unfold cutH
  simp
  omega
theorem of_cutH {h : Heap} {n b : Nat} {o : Obj} (hn : n ≤ h.objs.size) (e : (cutH h n).get? b = some o) : b < n ∧ h.get? b = some o := by
  have l := Heap.lt_size e
  rw [cutH_size hn] at l
  rw [cutH_get l] at e
  exact ⟨l, e⟩
def cutS (s : Shared) (n : Nat) : Shared := { s with heap := cutH s.heap n }

abbrev atc (X : Cx) (s : Shared) (H : Hp) : Cx := { X with s_0 := s, H_0 := H }

/-- the generator's own objects: its frame, its cells, what is pinned -/
def Own (X : Cx) (ip : List (Addr × Obj)) (b : Addr) : Prop := b = X.env.locals ∨ (∃ x, X.env.cells.lookup x = some b) ∨ ∃ p ∈ X.pn ++ ip, p.1 = b

/-- while it slept: its own objects are as they were, the rest is in order -/
structure Rest (X : Cx) (ip : List (Addr × Obj)) (s s2 : Shared) (H2 : Hp) : Prop where
  kept : ∀ b o, Own X ip b → s.heap.get? b = some o → s2.heap.get? b = some o
  free : ∀ b, Own X ip b → H2 b = none
  bs : ∀ b o, X.base.get? b = some o → s2.heap.get? b = some o ∧ H2 b = none
  funs : s2.heap.FunFrames X.base X.outer
  frf : ∀ b ∈ X.fs, H2 b = none
  hok : HOk X.prog X.w H2 s2.heap
  bare : AllBare s2.gens

theorem funs_cut {n : Nat} {s0 s2 base : Heap} (hn : n ≤ s2.objs.size) (h0 : s0.objs.size = n) : ∀ {l : List Env}, s0.FunFrames base l → s2.FunFrames base l → (cutH s2 n).FunFrames base l
  | [], _, _ => trivial
  | env :: l, ⟨_, ⟨L, o, hf, _, ho, _⟩, r⟩, ⟨k, ⟨L', o', hf', hb', ho', hd'⟩, r'⟩ => by
    have e : L = L' := Option.some.inj (hf.symm.trans hf')
    subst e
    have l1 := Heap.lt_size ho
    exact ⟨k, ⟨L, o', hf, hb', by rw [cutH_get (by rw [← h0]; exact l1)]; exact ho', hd'⟩, funs_cut hn h0 r r'⟩

theorem rebase {X : Cx} {n : Nat} {s0 s s2 : Shared} {H0 H H2 : Hp} {ip : List (Addr × Obj)} {σ : L2.St} (h0 : s0.heap.objs.size = n) (hn : n ≤ s2.heap.objs.size) (I : Inv (atc X s0 H0) ip σ H s) (r : Rest X ip s s2 H2) :
    Inv (atc X (cutS s2 n) H2) ip σ H2 s2 := by
  have ok := I.ok
  have hsz : (cutS s2 n).heap.objs.size = n := cutH_size hn
  have hb : X.base.objs.size ≤ n := by have := ok.bsz; simp only at this; omega
  refine ⟨⟨ok.mod, ok.kind, ok.glob, ok.blt, ?_, ok.inj, ok.has, fun x c h1 h2 => ?_, ok.hd, ok.frames, ok.stk, ok.exf, fun b o e => ?_, ?_, ok.noex, ok.exfs, ?_, r.frf⟩, rfl, r.bare,
    ⟨fun b o e n1 _ _ => ?_, fun b o e n1 _ _ => ?_, fun b o _ n1 _ => n1, fun b o e _ => ?_, fun _ _ e => e, fun _ _ _ e => e, fun b ps e => ⟨#[], by simpa using e⟩⟩, ?_, fun x c e => ?_, r.free _ (.inl rfl), fun x c e => r.free _ (.inr (.inl ⟨x, e⟩)), fun p hp => ?_, r.hok, I.len⟩
  · show (cutS s2 n).heap.objs.size ≤ X.env.locals
    rw [hsz, ← h0]; exact ok.above
  · show (cutS s2 n).heap.objs.size ≤ c
    rw [hsz, ← h0]; exact ok.cab x c h1 h2
  · obtain ⟨e1, e2⟩ := r.bs b o e
    refine ⟨?_, e2⟩
    show (cutH s2.heap n).get? b = some o
    rw [cutH_get (Nat.lt_of_lt_of_le (Heap.lt_size e) hb)]; exact e1
  · show X.base.objs.size ≤ (cutS s2 n).heap.objs.size
    rw [hsz]; exact hb
  · exact funs_cut hn h0 ok.funs r.funs
  · exact (of_cutH hn e).2
  · exact ⟨o.slots, (of_cutH hn e).2⟩
  · exact ⟨o, (of_cutH hn e).2⟩
  · obtain ⟨m, hm, hl⟩ := I.loc
    have hk : ∀ m', s.heap.Ns X.env.locals m' → s2.heap.Ns X.env.locals m' := fun m' ⟨o, es, ep, ho, q⟩ => ⟨o, es, ep, r.kept _ _ (.inl rfl) ho, q⟩
    refine ⟨m, hk m hm, fun i x v e1 e2 e3 => ?_⟩
    obtain ⟨u, rv, l⟩ := hl i x v e1 e2 e3
    refine ⟨u, rv, ?_⟩
    rcases l with l | ⟨k, c, e, o, ho, hd⟩
    · exact .inl l
    · exact .inr ⟨k, c, e, o, r.kept _ _ (.inr (.inl ⟨x, e⟩)) ho, hd⟩
  · obtain ⟨v, o, ho, hd⟩ := I.cell x c e
    exact ⟨v, o, r.kept _ _ (.inr (.inl ⟨x, e⟩)) ho, hd⟩
  · obtain ⟨e, _, ne, nf, d⟩ := I.pin p hp
    exact ⟨r.kept _ _ (.inr (.inr ⟨p, hp, rfl⟩)) e, r.free _ (.inr (.inr ⟨p, hp, rfl⟩)), ne, nf, d⟩

/-! ### the protocol -/
structure GCn where
  wk : List V → Shared → Hp → Prop
  qy : List V → Hp → V → Hp → Prop
  rs : List V → V → Hp → Hp → Prop
def GI (X : Cx) (n : Nat) (ip : List (Addr × Obj)) (sw : Shared) (Hw : Hp) (σ : L2.St) (H : Hp) (s : Shared) : Prop := n ≤ sw.heap.objs.size ∧ (∀ p ∈ ip, n ≤ p.1) ∧ Inv (atc X (cutS sw n) Hw) ip σ H s
def GY (X : Cx) (n : Nat) (W : GCn) : Protocol := fun m s₀ v s kap =>
  ∃ ys x ip σ Hw H, m + 1 + ys.length = sizeLine ∧ RelV x v ∧ GI X n ip s₀ Hw σ H s ∧ W.wk ys s₀ Hw ∧ W.qy ys Hw x H ∧ ∀ s2 H2, n ≤ s2.heap.objs.size → Rest X ip s s2 H2 → W.wk (ys ++ [x]) s2 H2 → W.rs ys x H H2 → kap (.send .none) s2
def GF1 (X : Cx) (n : Nat) (W : GCn) (qf : List V → Hp → Hp → Prop) (s₀ s : Shared) : Prop := ∃ ys ip σ Hw H, GI X n ip s₀ Hw σ H s ∧ W.wk ys s₀ Hw ∧ qf ys Hw H
def GR (X : Cx) (n : Nat) (W : GCn) (qf : List V → Hp → Hp → Prop) : GenEnd := fun _ s₀ r s => ((r = .ok (.ret .none) ∨ r = .ok .next) ∧ GF1 X n W qf s₀ s) ∨ ∃ e, r = .error e ∧ False
structure GEnds where
  nx : List V → Hp → L2.St → Hp → Prop
  rt : List V → Hp → V → Hp → Prop
  bk : List V → Hp → L2.St → Hp → Prop := fun _ _ _ _ => False
  ct : List V → Hp → L2.St → Hp → Prop := fun _ _ _ _ => False
abbrev TGn := GCn → GEnds → List V → Hp → L2.St → Hp → Prop
def GEnds.at (D : GEnds) (ys : List V) (Hw : Hp) : Ends := { nx := D.nx ys Hw, rt := D.rt ys Hw, bk := D.bk ys Hw, ct := D.ct ys Hw }
def GSP (X : Cx) (n : Nat) (ip : List (Addr × Obj)) (D : GEnds) (ys : List V) (s₀ : Shared) (Hw : Hp) (f : Flow) (s : Shared) : Prop :=
  match f with
  | .next => ∃ σ H, GI X n ip s₀ Hw σ H s ∧ D.nx ys Hw σ H
  | .brk => ∃ σ H, GI X n ip s₀ Hw σ H s ∧ D.bk ys Hw σ H
  | .cont => ∃ σ H, GI X n ip s₀ Hw σ H s ∧ D.ct ys Hw σ H
  | .ret u => ∃ v σ H, GI X n ip s₀ Hw σ H s ∧ RelV v u ∧ D.rt ys Hw v H
structure GC (X : Cx) (A : Around) (c : Code) (fs : List Frame) (gd : Bool → Bool) : Prop where
  over : A.over c fs = X.A
  split : splitAtGen fs = none
  guard : fs.any Frame.guarded = false
  gd : gd false = false
structure GK (X : Cx) (n : Nat) (W : GCn) (ip : List (Addr × Obj)) (A : Around) (R : GenEnd) (c : Code) (fs : List Frame) (K : Flow → Sem PySem.Fin) (D : GEnds) : Prop where
  ok : ∀ (m : Nat) (ys : List V) (s₀ : Shared) (Hw : Hp) (s : Shared) (f : Flow), m + ys.length = sizeLine → W.wk ys s₀ Hw → GSP X n ip D ys s₀ Hw f s → Seg (model X.prog X.w) A R (GY X n W) m s₀ c (K f) fs s
/-- no exception leaves -/
def Nox (X : Cx) : Prop := X.xe = fun _ _ => False
structure GS (X : Cx) (n : Nat) (st : Stmt) (t : TGn) : Prop where
  run : ∀ (W : GCn) (A : Around) (ip : List (Addr × Obj)) (R : GenEnd) (m : Nat) (ys : List V) (s₀ : Shared) (Hw : Hp) (c : Code) (fs : List Frame) (K : Flow → Sem PySem.Fin) (J : Value → Sem PySem.Fin) (gd : Bool → Bool) (lv : List Value → List Value) (s : Shared) (σ : L2.St) (H : Hp) (D : GEnds),
    GC X A c fs gd → m + ys.length = sizeLine → GK X n W ip A R c fs K D → GI X n ip s₀ Hw σ H s → W.wk ys s₀ Hw → t W D ys Hw σ H →
    Seg (model X.prog X.w) A R (GY X n W) m s₀ c ((exec st X.env).wrap K J gd lv) fs s
structure GSs (X : Cx) (n : Nat) (st : List Stmt) (t : TGn) : Prop where
  run : ∀ (W : GCn) (A : Around) (ip : List (Addr × Obj)) (R : GenEnd) (m : Nat) (ys : List V) (s₀ : Shared) (Hw : Hp) (c : Code) (fs : List Frame) (K : Flow → Sem PySem.Fin) (J : Value → Sem PySem.Fin) (gd : Bool → Bool) (lv : List Value → List Value) (s : Shared) (σ : L2.St) (H : Hp) (D : GEnds),
    GC X A c fs gd → m + ys.length = sizeLine → GK X n W ip A R c fs K D → GI X n ip s₀ Hw σ H s → W.wk ys s₀ Hw → t W D ys Hw σ H →
    Seg (model X.prog X.w) A R (GY X n W) m s₀ c ((execs st X.env).wrap K J gd lv) fs s

section
variable {X : Cx} {n : Nat} {st : Stmt} {rest : List Stmt}
theorem sp_gsp {ip : List (Addr × Obj)} {s₀ s : Shared} {Hw : Hp} {D : GEnds} {ys : List V} {f : Flow} (hn : n ≤ s₀.heap.objs.size) (hi : ∀ p ∈ ip, n ≤ p.1) (h : SP (atc X (cutS s₀ n) Hw) ip (D.at ys Hw) f s) : GSP X n ip D ys s₀ Hw f s := by
  cases f with
  | next => obtain ⟨σ, H, I, q⟩ := h; exact ⟨σ, H, ⟨hn, hi, I⟩, q⟩
  | brk => obtain ⟨σ, H, I, q⟩ := h; exact ⟨σ, H, ⟨hn, hi, I⟩, q⟩
  | cont => obtain ⟨σ, H, I, q⟩ := h; exact ⟨σ, H, ⟨hn, hi, I⟩, q⟩
  | ret u => obtain ⟨v, σ, H, I, r1, q⟩ := h; exact ⟨v, σ, H, ⟨hn, hi, I⟩, r1, q⟩
/-- a statement that hands out nothing -/
def tPlain (t : TS) : TGn := fun _ D ys Hw σ H => t (D.at ys Hw) σ H
theorem gs_ps {t : TS} (nx : Nox X) (h : ∀ s0 H0, PS (atc X s0 H0) st t) : GS X n st (tPlain t) := by
  refine ⟨fun W A ip R m ys s₀ Hw c fs K J gd lv s σ H D g hm k hI hw ht => ?_⟩
  obtain ⟨hn, hi, I⟩ := hI
  refine seg_wrap ?_
  rw [g.over]
  refine wpAny_mono ((h (cutS s₀ n) Hw).run ip s σ H (D.at ys Hw) I ht) (fun f s' hs => k.ok m ys s₀ Hw s' f hm hw (sp_gsp hn hi hs)) fun x s' hx => ?_
  have hx : X.xe x s' := hx
  rw [nx] at hx
  exact hx.elim
theorem gss_pss {t : TS} (nx : Nox X) (h : ∀ s0 H0, PSs (atc X s0 H0) rest t) : GSs X n rest (tPlain t) := by
  refine ⟨fun W A ip R m ys s₀ Hw c fs K J gd lv s σ H D g hm k hI hw ht => ?_⟩
  obtain ⟨hn, hi, I⟩ := hI
  refine seg_wrap ?_
  rw [g.over]
  refine wpAny_mono ((h (cutS s₀ n) Hw).run ip s σ H (D.at ys Hw) I ht) (fun f s' hs => k.ok m ys s₀ Hw s' f hm hw (sp_gsp hn hi hs)) fun x s' hx => ?_
  have hx : X.xe x s' := hx
  rw [nx] at hx
  exact hx.elim
def tG0 : TGn := fun _ D ys Hw σ H => D.nx ys Hw σ H
theorem gss_nil : GSs X n [] tG0 := by
  refine ⟨fun W A ip R m ys s₀ Hw c fs K J gd lv s σ H D g hm k hI hw ht => ?_⟩
  exact seg_execs_nil (k.ok m ys s₀ Hw s .next hm hw ⟨σ, H, hI, ht⟩)
def tGThen (t u : TGn) : TGn := fun W D ys Hw σ H => t W { D with nx := fun ys' Hw' σ' H' => u W D ys' Hw' σ' H' } ys Hw σ H
theorem gss_cons {t u : TGn} (a : GS X n st t) (b : GSs X n rest u) : GSs X n (st :: rest) (tGThen t u) := by
  refine ⟨fun W A ip R m ys s₀ Hw c fs K J gd lv s σ H D g hm k hI hw ht => ?_⟩
  refine seg_execs_cons ?_
  refine a.run W A ip R m ys s₀ Hw c fs _ J gd lv s σ H { D with nx := fun ys' Hw' σ' H' => u W D ys' Hw' σ' H' } g hm ⟨fun m' ys' s₀' Hw' s' f hm' hw' hs => ?_⟩ hI hw ht
  cases f with
  | next =>
    obtain ⟨σ', H', I', q⟩ := hs
    exact b.run W A ip R m' ys' s₀' Hw' c fs K J gd lv s' σ' H' D g hm' k I' hw' q
  | brk => exact k.ok m' ys' s₀' Hw' s' .brk hm' hw' hs
  | cont => exact k.ok m' ys' s₀' Hw' s' .cont hm' hw' hs
  | ret u => exact k.ok m' ys' s₀' Hw' s' (.ret u) hm' hw' hs

/-! ### yield -/
variable {e : Expr} {yp pos : Pos} {te : TE}
def tGYield (te : TE) : TGn := fun W D ys Hw σ H => ys.length < sizeLine ∧ te σ H fun x H1 => W.qy ys Hw x H1 ∧ ∀ H2, W.rs ys x H1 H2 → D.nx (ys ++ [x]) H2 σ H2
theorem gs_yield (nx : Nox X) (he : ∀ s0 H0, PE (atc X s0 H0) e te) (hco : X.env.scope.isCoroutine = false := by rfl) (hin : interactive X.env = false := by rfl) : GS X n (.Expr (.Yield (some e) yp) pos) (tGYield te) := by
  refine ⟨fun W A ip R m ys s₀ Hw c fs K J gd lv s σ H D g hm k hI hw ht => ?_⟩
  obtain ⟨hlt, ht⟩ := ht
  obtain ⟨m, rfl⟩ : ∃ j, m = j + 1 := ⟨m - 1, by omega⟩
  obtain ⟨hn, hi, I⟩ := hI
  refine seg_Expr_Yield g.split g.gd g.guard ?_ hco hin
  rw [g.over]
  refine wpAny_mono ((he (cutS s₀ n) Hw).run ip s σ H _ I ht) (fun v s' hv => ?_) fun x s' hx => ?_
  · obtain ⟨x, H1, I1, rv, qy, q⟩ := hv
    intro kap hk
    refine ⟨ys, x, ip, σ, Hw, H1, hm, rv, ⟨hn, hi, I1⟩, hw, qy, fun s2 H2 hn2 hr hw2 hrs => hk .none s2 ?_⟩
    refine k.ok m (ys ++ [x]) s2 H2 s2 .next ?_ hw2 ⟨σ, H2, ⟨hn2, hi, rebase (cutH_size hn) hn2 I1 hr⟩, q H2 hrs⟩
    rw [List.length_append, List.length_singleton]; omega
  · have hx : X.xe x s' := hx
    rw [nx] at hx
    exact hx.elim
end
end GF
set_option Elab.async false
set_option linter.all false
set_option maxRecDepth 100000
set_option maxHeartbeats 1000000
namespace GF
open PySem PySem.Spec PyProof.Rows L2 GenW

section
variable {X : Cx} {n : Nat} {pos : Pos}
/-! ### if -/
def tGIf (c : TT) (t u : TGn) : TGn := fun W D ys Hw σ H => c σ H fun b H1 => if b = true then t W D ys Hw σ H1 else u W D ys Hw σ H1
theorem gs_if {c : Expr} {a b : List Stmt} {tc : TT} {t u : TGn} (nx : Nox X) (hc : ∀ s0 H0, PT (atc X s0 H0) c tc) (ha : GSs X n a t) (hb : GSs X n b u) : GS X n (.If c a b pos) (tGIf tc t u) := by
  refine ⟨fun W A ip R m ys s₀ Hw cd fs K J gd lv s σ H D g hm k hI hw ht => ?_⟩
  obtain ⟨hn, hip, I⟩ := hI
  rw [exec_If]
  refine seg_bind_wrap (wpAny_standAt ?_)
  refine seg_bind_wrap ?_
  rw [g.over]
  refine wpAny_mono ((hc (cutS s₀ n) Hw).run ip s σ H _ I ht) (fun d s1 h1 => ?_) fun x s' hx => ?_
  · obtain ⟨H1, I1, q1⟩ := h1
    cases d with
    | true => exact ha.run W A ip R m ys s₀ Hw cd fs K J gd lv s1 σ H1 D g hm k ⟨hn, hip, I1⟩ hw q1
    | false => exact hb.run W A ip R m ys s₀ Hw cd fs K J gd lv s1 σ H1 D g hm k ⟨hn, hip, I1⟩ hw q1
  · have hx : X.xe x s' := hx
    rw [nx] at hx
    exact hx.elim

/-! ### while -/
def tGWhile (c : TT) (tb : TGn) : TGn := fun W D ys Hw σ H => ∃ V : Nat → List V → Hp → L2.St → Hp → Prop, (∃ m, V m ys Hw σ H) ∧ ∀ m ys Hw σ H, V m ys Hw σ H →
  c σ H fun b H1 => if b = true then ∃ N : List L2.V → Hp → L2.St → Hp → Prop, (∀ ys' Hw' σ' H', N ys' Hw' σ' H' → ∃ m', m' < m ∧ V m' ys' Hw' σ' H') ∧ tb W { D with nx := N, ct := N, bk := D.nx } ys Hw σ H1 else D.nx ys Hw σ H1
theorem gc_loop {A : Around} {c c' : Code} {fs : List Frame} {gd : Bool → Bool} {k : Result → Sem PySem.Fin} {l kp : List Value} {p : Pos} (g : GC X A c fs gd) (hw : c'.weight = 0) (hu : c'.cUnits = 0) :
    GC X A c' (.ret k none (gd false) l c p kp :: fs) id where
  over := (over_loop hw hu).trans g.over
  split := by
    show (splitAtGen fs).map _ = none
    rw [g.split]; rfl
  guard := by
    show (gd false || fs.any Frame.guarded) = false
    rw [g.gd, g.guard]; rfl
  gd := rfl
theorem gs_while {test : Expr} {body : List Stmt} {tc : TT} {tb : TGn} (nx : Nox X) (hc : ∀ s0 H0, PT (atc X s0 H0) test tc) (hb : GSs X n body tb) : GS X n (.While test body [] pos) (tGWhile tc tb) := by
  refine ⟨fun W A ip R m ys s₀ Hw c fs K J gd lv s σ H D g hm k hI hw ht => ?_⟩
  obtain ⟨V, ⟨m0, w0⟩, turn⟩ := ht
  refine seg_While fun p => ?_
  have gl := fun (kk : Result → Sem PySem.Fin) => gc_loop (k := kk) (c' := .whileLoop test body [] X.env) (l := lv []) (kp := []) (p := p) g rfl rfl
  have loop : ∀ (j m : Nat) (ys : List L2.V) (s₀ : Shared) (Hw : Hp) (s : Shared) (σ : L2.St) (H : Hp), m + ys.length = sizeLine → W.wk ys s₀ Hw → V j ys Hw σ H → GI X n ip s₀ Hw σ H s →
      Seg (model X.prog X.w) A R (GY X n W) m s₀ (.whileLoop test body [] X.env) ((model X.prog X.w).den (.whileLoop test body [] X.env))
        (.ret (fun r => ((match r with | .ok f => (.pure f : Sem Flow) | .error e => .raise e).onRaise (cameBack X.env)).wrap K J gd lv) none (gd false) (lv []) c p [] :: fs) s := by
    intro j
    induction j using Nat.strongRecOn with
    | ind j ih =>
      intro m ys s₀ Hw s σ H hm hw w hI
      refine seg_whileLoop ?_
      rw [(gl _).over]
      obtain ⟨hn, hip, I⟩ := hI
      refine wpAny_mono ((hc (cutS s₀ n) Hw).run ip s σ H _ I (turn j ys Hw σ H w)) (fun b s' hb' => ?_) fun x s' hx => ?_
      · obtain ⟨H2, I2, q2⟩ := hb'
        cases b with
        | true =>
          obtain ⟨N, hN, q2⟩ := q2
          rw [if_pos rfl]
          refine hb.run W A ip R m ys s₀ Hw _ _ _ _ id id s' σ H2 { D with nx := N, ct := N, bk := D.nx } (gl _) hm ⟨fun m' ys' s₀' Hw' s3 f hm' hw' hs => ?_⟩ ⟨hn, hip, I2⟩ hw q2
          cases f with
          | next =>
            obtain ⟨σ3, H3, I3, n3⟩ := hs
            obtain ⟨j', hj, w3⟩ := hN ys' Hw' σ3 H3 n3
            exact seg_again rfl (ih j' hj m' ys' s₀' Hw' s3 σ3 H3 hm' hw' w3 I3)
          | cont =>
            obtain ⟨σ3, H3, I3, n3⟩ := hs
            obtain ⟨j', hj, w3⟩ := hN ys' Hw' σ3 H3 n3
            exact seg_again rfl (ih j' hj m' ys' s₀' Hw' s3 σ3 H3 hm' hw' w3 I3)
          | brk => exact seg_leaf (.ok .next) (k.ok m' ys' s₀' Hw' s3 .next hm' hw' hs)
          | ret v => exact seg_leaf (.ok (.ret v)) (k.ok m' ys' s₀' Hw' s3 (.ret v) hm' hw' hs)
        | false =>
          rw [if_neg Bool.false_ne_true]
          refine seg_execs_nil ?_
          exact seg_leaf (.ok .next) (k.ok m ys s₀ Hw s' .next hm hw ⟨σ, H2, ⟨hn, hip, I2⟩, q2⟩)
      · have hx : X.xe x s' := hx
        rw [nx] at hx
        exact hx.elim
  exact loop m0 m ys s₀ Hw s σ H hm hw w0 hI

/-! ### for -/
theorem seg_For {M : Model} {A : Around} {R : GenEnd} {Y : Protocol} {m : Nat} {s₀ : Shared} {c : Code} {fs : List Frame} {s : Shared} {env : Env} {K : Flow → Sem PySem.Fin} {J : Value → Sem PySem.Fin} {gd : Bool → Bool} {lv : List Value → List Value} {tg iter : Expr} {body : List Stmt} (hs : ∀ x, foldedSetIterable iter env x = pure x)
    (h : wpAny M (A.over c fs) (eval iter env) (fun x s1 => wpAny M (A.over c fs) (pyIter x) (fun it s2 => ∀ p, Seg M A R Y m s₀ (.forLoop tg it body [] env) (M.den (.forLoop tg it body [] env))
      (.ret (fun r => ((match r with | .ok f => (.pure f : Sem Flow) | .error e => .raise e).onRaise (cameBack env)).wrap K J gd lv) none (gd false) (lv []) c p [] :: fs) s2) (fun _ _ => False) s1) (fun _ _ => False) s) :
    Seg M A R Y m s₀ c ((exec (.For tg iter body [] pos) env).wrap K J gd lv) fs s := by
  rw [exec_For]
  refine seg_bind_wrap (wpAny_standAt ?_)
  refine seg_bind_wrap (wpAny_mono h (fun x s1 h1 => ?_) fun _ _ h => False.elim h)
  refine seg_bind_wrap (wpAny_of_eq (hs x) ?_)
  refine seg_bind_wrap (wpAny_standAt ?_)
  refine seg_bind_wrap (wpAny_holding (wpAny_mono h1 (fun it s2 h2 => ?_) fun _ _ h => False.elim h))
  exact seg_call h2
theorem seg_forLoop {prog : Program} {w : World} {A : Around} {R : GenEnd} {Y : Protocol} {m : Nat} {s₀ : Shared} {fs : List Frame} {s : Shared} {env : Env} {tg : Expr} {it : Value} {body : List Stmt}
    (h : wpAny (model prog w) (A.over (.forLoop tg it body [] env) fs) (pyNext it) (fun r s1 => match r with
      | none => Seg (model prog w) A R Y m s₀ (.forLoop tg it body [] env) (.pure (.again (.block [] env))) fs s1
      | some v => wpAny (model prog w) (A.over (.forLoop tg it body [] env) fs) (letOwnedTupleGo tg it v) (fun _ s2 => wpAny (model prog w) (A.over (.forLoop tg it body [] env) fs) (assign tg env v) (fun _ s3 =>
          Seg (model prog w) A R Y m s₀ (.forLoop tg it body [] env) ((execs body env).wrap (fun f => match f with
            | .next | .cont => .pure (.again (.forLoop tg it body [] env))
            | .brk => .pure (.done .next)
            | .ret v => .pure (.done (.ret v))) (fun e => (do noteFrame e env; theTreesLotGoes e : Sem Unit).wrap (fun _ => .raise e) .raise id id) id id) fs s3) (fun _ _ => False) s2) (fun _ _ => False) s1) (fun _ _ => False) s) :
    Seg (model prog w) A R Y m s₀ (.forLoop tg it body [] env) ((model prog w).den (.forLoop tg it body [] env)) fs s := by
  show Seg _ A R Y m s₀ _ ((forTurn tg it body [] env).onRaise (fun x => do noteFrame x env; theTreesLotGoes x)) fs s
  unfold forTurn
  rw [Sem.onRaise_eq_wrap, Sem.bind_eq_wrap', Sem.wrap_wrap]
  refine seg_wrap (wpAny_standAt ?_)
  rw [Sem.bind_eq_wrap', Sem.wrap_wrap]
  refine seg_wrap (wpAny_onRaise (wpAny_mono h (fun r s1 h1 => ?_) fun _ _ h => False.elim h))
  cases r with
  | none => exact h1
  | some v =>
    show Seg _ A R Y m s₀ _ (Sem.wrap _ _ _ _ (letOwnedTupleGo tg it v >>= _)) fs s1
    rw [Sem.bind_eq_wrap', Sem.wrap_wrap]
    refine seg_wrap (wpAny_mono h1 (fun _ s2 h2 => ?_) fun _ _ h => False.elim h)
    rw [Sem.bind_eq_wrap', Sem.wrap_wrap]
    refine seg_wrap (wpAny_mono h2 (fun _ s3 h3 => ?_) fun _ _ h => False.elim h)
    rw [Sem.bind_eq_wrap', Sem.wrap_wrap]
    rw [Sem.wrap_congr (execs body env) _ _ (K' := fun f => match f with
            | .next | .cont => .pure (.again (.forLoop tg it body [] env))
            | .brk => .pure (.done .next)
            | .ret v => .pure (.done (.ret v))) (H' := (fun e => (do noteFrame e env; theTreesLotGoes e : Sem Unit).wrap (fun _ => .raise e) .raise id id))
        (fun f => by cases f <;> rfl)
        (fun e => by first | exact Sem.bind_eq_wrap _ _ | (show (do noteFrame e env; theTreesLotGoes e : Sem Unit).bind (fun _ => .raise e) = _; rw [Sem.bind_eq_wrap]) | rfl)]
    exact h3
theorem seg_blockNil {prog : Program} {w : World} {A : Around} {R : GenEnd} {Y : Protocol} {m : Nat} {s₀ : Shared} {fs : List Frame} {s : Shared} {env : Env}
    (h : Seg (model prog w) A R Y m s₀ (.block [] env) (.pure (.done .next)) fs s) : Seg (model prog w) A R Y m s₀ (.block [] env) ((model prog w).den (.block [] env)) fs s := h
/-- W: the word, by the turn and a measure -/
def tGFor (wi : TI) (g : TG) (tb : TGn) : TGn := fun W D ys Hw σ H => wi σ H fun J H1 => ∃ V : Nat → Nat → List V → Hp → L2.St → Hp → Prop, (∃ m, V 0 m ys Hw σ H1) ∧ ∀ i m ys Hw σ H, V i m ys Hw σ H →
  (J.stop i H ∧ D.nx ys Hw σ H) ∨ (J.go i H ∧ ∃ N : List L2.V → Hp → L2.St → Hp → Prop, (∀ ys' Hw' σ' H', N ys' Hw' σ' H' → ∃ m', m' < m ∧ V (i + 1) m' ys' Hw' σ' H') ∧ ∀ x H', J.yld i H x H' → g x σ H' fun σ2 H2 => tb W { D with nx := N, ct := N, bk := D.nx } ys Hw σ2 H2)
theorem gs_for {tg iter : Expr} {body : List Stmt} {wi : TI} {g : TG} {tb : TGn} (nx : Nox X) (hex : X.ex = []) (hc : X.calm = true) (hi : ∀ s0 H0, PI (atc X s0 H0) tg iter wi) (hg : ∀ s0 H0, PG (atc X s0 H0) tg g) (hb : GSs X n body tb)
    (hs : ∀ x, foldedSetIterable iter X.env x = pure x := by intro _; rfl) : GS X n (.For tg iter body [] pos) (tGFor wi g tb) := by
  have no : ∀ x s', X.xe x s' → False := fun x s' hx => by rw [nx] at hx; exact hx
  refine ⟨fun W A ip R m ys s₀ Hw c fs K J gd lv s σ H D gc hm k hI hw ht => ?_⟩
  obtain ⟨hn, hip, I⟩ := hI
  refine seg_For hs ?_
  rw [gc.over]
  refine wpAny_mono ((hi (cutS s₀ n) Hw).run ip s σ H _ I ht) (fun v s1 h1 => wpAny_mono h1 (fun itv s2 h2 => ?_) fun x s' hx => no x s' hx) fun x s' hx => no x s' hx
  obtain ⟨it, fp, tn, Jt, H2, e, I2, T, st2, f2, V, ⟨m0, w0⟩, turn⟩ := h2
  subst e
  intro p
  have gl := fun (kk : Result → Sem PySem.Fin) => gc_loop (k := kk) (c' := .forLoop tg (.ref it) body [] X.env) (l := lv []) (kp := []) (p := p) gc rfl rfl
  -- what is true of the iterator's objects, whatever the entry
  have sz : ∀ (s0' : Shared), n ≤ s0'.heap.objs.size → (cutS s0' n).heap.objs.size = n := fun s0' h => cutH_size h
  have stat : ∀ {s0' : Shared} {Hw' H' : Hp}, n ≤ s0'.heap.objs.size → (∀ b ∈ fp, H' b = none) → ∀ b ∈ fp, FpOk (atc X (cutS s0' n) Hw') ip H' b := fun {s0' Hw' H'} hn' hz b hb => by
    obtain ⟨_, q1, q2, q3, q4, q5⟩ := f2 b hb
    refine ⟨hz b hb, q1, q2, ?_, q4, q5⟩
    have q3' : b ∈ X.ex ∨ (cutS s₀ n).heap.objs.size ≤ b := q3
    rw [sz s₀ hn] at q3'
    show b ∈ X.ex ∨ (cutS s0' n).heap.objs.size ≤ b
    rw [sz s0' hn']
    exact q3'
  have loop : ∀ (j i m : Nat) (ys : List L2.V) (s₀ : Shared) (Hw : Hp) (s : Shared) (σ : L2.St) (H : Hp), m + ys.length = sizeLine → W.wk ys s₀ Hw → V i j ys Hw σ H → GI X n ip s₀ Hw σ H s → tn i s.heap → (∀ b ∈ fp, H b = none) →
      Seg (model X.prog X.w) A R (GY X n W) m s₀ (.forLoop tg (.ref it) body [] X.env) ((model X.prog X.w).den (.forLoop tg (.ref it) body [] X.env))
        (.ret (fun r => ((match r with | .ok f => (.pure f : Sem Flow) | .error e => .raise e).onRaise (cameBack X.env)).wrap K J gd lv) none (gd false) (lv []) c p [] :: fs) s := by
    intro j
    induction j using Nat.strongRecOn with
    | ind j ih =>
      intro i m ys s₀' Hw' s σ H hm hw w hI st fr
      obtain ⟨hn', hip', I'⟩ := hI
      refine seg_forLoop ?_
      rw [(gl _).over]
      rcases turn i j ys Hw' σ H w with ⟨stop, qn⟩ | ⟨go, N, hN, step⟩
      · refine wpAny_mono (T.done (atc X (cutS s₀' n) Hw') rfl rfl rfl hc i ip s σ H (fun _ _ => False) I' (stat hn' fr) st stop) (fun r s4 h4 => ?_) fun _ _ h => h
        obtain ⟨hr, I4⟩ := h4
        subst hr
        refine seg_again rfl (seg_blockNil ?_)
        exact seg_leaf (.ok .next) (k.ok m ys s₀' Hw' s4 .next hm hw ⟨σ, H, ⟨hn', hip', I4⟩, qn⟩)
      · refine wpAny_mono (T.item (atc X (cutS s₀' n) Hw') rfl rfl rfl hc i ip s σ H (fun _ _ => False) I' (stat hn' fr) st go) (fun r s4 h4 => ?_) fun _ _ h => h
        obtain ⟨u, hr, h4⟩ := h4
        subst hr
        refine wpAny_mono h4 (fun _ s5 h5 => ?_) fun _ _ h => h
        obtain ⟨x, H5, I5, r5, y5, st5, fr5⟩ := h5
        have I5' := I5.pinned (stat hn' fr5) (T.obj _ _ st5)
        have hipp : ∀ p ∈ ip ++ pinsAt fp s5.heap, n ≤ p.1 := fun p hp => by
          rcases List.mem_append.mp hp with z | z
          · exact hip' p z
          · have q3 : p.1 ∈ X.ex ∨ (cutS s₀' n).heap.objs.size ≤ p.1 := (stat (Hw' := Hw') hn' fr5 p.1 (of_pinsAt z).1).2.2.2.1
            rcases q3 with q | q
            · rw [hex] at q; simp at q
            · rw [sz s₀' hn'] at q; exact q
        refine wpAny_mono ((hg (cutS s₀' n) Hw').run _ s5 σ H5 x u _ I5' r5 (step x H5 y5)) (fun _ s6 h6 => ?_) fun x s' hx => no x s' hx
        obtain ⟨σ6, H6, I6, q6⟩ := h6
        refine hb.run W A (ip ++ pinsAt fp s5.heap) R m ys s₀' Hw' _ _ _ _ id id s6 σ6 H6 { D with nx := N, ct := N, bk := D.nx } (gl _) hm ⟨fun m' ys' s₀'' Hw'' s7 f hm' hw' hs => ?_⟩ ⟨hn', hipp, I6⟩ hw q6
        have againI : ∀ {σ7 : L2.St} {H7 : Hp}, GI X n (ip ++ pinsAt fp s5.heap) s₀'' Hw'' σ7 H7 s7 → GI X n ip s₀'' Hw'' σ7 H7 s7 ∧ tn (i + 1) s7.heap ∧ ∀ b ∈ fp, H7 b = none := fun {σ7 H7} hI7 => by
          obtain ⟨hn7, _, I7⟩ := hI7
          refine ⟨⟨hn7, hip', I7.unpinned⟩, T.keep _ _ _ st5 fun b hb o e => (I7.pin (b, o) (List.mem_append_right _ (List.mem_append_right _ (mem_pinsAt hb e)))).1, fun b hb => ?_⟩
          obtain ⟨o, e, d⟩ := T.obj _ _ st5 b hb
          exact (I7.pin (b, o) (List.mem_append_right _ (List.mem_append_right _ (mem_pinsAt hb e)))).2.1
        cases f with
        | next =>
          obtain ⟨σ7, H7, hI7, n7⟩ := hs
          obtain ⟨j', hj, w7⟩ := hN ys' Hw'' σ7 H7 n7
          obtain ⟨a1, a2, a3⟩ := againI hI7
          exact seg_again rfl (ih j' hj (i + 1) m' ys' s₀'' Hw'' s7 σ7 H7 hm' hw' w7 a1 a2 a3)
        | cont =>
          obtain ⟨σ7, H7, hI7, n7⟩ := hs
          obtain ⟨j', hj, w7⟩ := hN ys' Hw'' σ7 H7 n7
          obtain ⟨a1, a2, a3⟩ := againI hI7
          exact seg_again rfl (ih j' hj (i + 1) m' ys' s₀'' Hw'' s7 σ7 H7 hm' hw' w7 a1 a2 a3)
        | brk =>
          obtain ⟨σ7, H7, hI7, n7⟩ := hs
          exact seg_leaf (.ok .next) (k.ok m' ys' s₀'' Hw'' s7 .next hm' hw' ⟨σ7, H7, (againI hI7).1, n7⟩)
        | ret v =>
          obtain ⟨x7, σ7, H7, hI7, r7, n7⟩ := hs
          exact seg_leaf (.ok (.ret v)) (k.ok m' ys' s₀'' Hw'' s7 (.ret v) hm' hw' ⟨x7, σ7, H7, (againI hI7).1, r7, n7⟩)
  exact loop m0 0 m ys s₀ Hw s2 σ H2 hm hw w0 ⟨hn, hip, I2⟩ st2 fun b hb => (f2 b hb).1
end
end GF
set_option Elab.async false
set_option linter.all false
set_option maxRecDepth 100000
set_option maxHeartbeats 1000000
namespace GF
open PySem PySem.Spec PyProof.Rows L2 GenW

/-! ### a generator def's call -/
def gxOf (P : Program) (w : World) (K : PySem.W.Frag) (mg : Str → Option Value) (base : Heap) (N : List Str) (qual : Str) (scope : Scope) (f : Addr) (cd : Value) (A : Around) (outer : List Env) (n : Nat) (pn : List (Addr × Obj)) (s : Shared) (H : Hp) : Cx :=
  { prog := P, w := w, K := K, mg := mg, base := base, A := A.deeper (envOfC qual scope n f cd), N := N, s_0 := s, H_0 := H, env := envOfC qual scope n f cd, outer := outer, stack := envOfC qual scope n f cd :: outer,
    ex := [], fn := fun _ => true, calm := true, pn := pn, xe := fun _ _ => False }
theorem nox_gx {P : Program} {w : World} {K : PySem.W.Frag} {mg : Str → Option Value} {base : Heap} {N : List Str} {qual : Str} {scope : Scope} {f : Addr} {cd : Value} {A : Around} {outer : List Env} {n : Nat} {pn : List (Addr × Obj)} {s : Shared} {H : Hp} :
    Nox (gxOf P w K mg base N qual scope f cd A outer n pn s H) := rfl
/-- a generator def's promise: the arguments, the heap at the first wake, the contract, the end -/
abbrev SpG := List V → Hp → GCn → (List V → Hp → Hp → Prop) → Prop
def wA (X : Cx) (A : Around) : Cx := { X with A := A.deeper X.env }
/-- a generator that has not begun -/
def GMade (P : Program) (w : World) (base : Heap) (k : Nat) (outer : List Env) (sp : SpG) (vs : List V) (s : Shared) (u : Value) (s' : Shared) : Prop :=
  ∃ (X : Cx) (a : Addr) (g : Nat) (c : Code), (X.prog = P ∧ X.w = w ∧ X.base = base ∧ X.outer = outer ∧ X.ex = []) ∧ u = .ref a ∧ (∃ go : Obj, (a, go) ∈ X.pn ∧ ∀ h : Heap, h.get? a = some go → h.IsGen a g) ∧ (∀ b, Own X [] b → s.heap.objs.size ≤ b) ∧ (∀ b, Own X [] b → ∃ o, s'.heap.get? b = some o) ∧
    s'.heap.IsGen a g ∧ s'.gens[g]? = some (.fresh c) ∧ s'.os = s.os ∧ AllBare s'.gens ∧ s'.heap.NoLimit ∧ (∀ b o, s.heap.get? b = some o → s'.heap.get? b = some o) ∧
    ∀ (A : Around) (W : GCn) (qf : List V → Hp → Hp → Prop) (s2 : Shared) (H2 : Hp), Room k A → A.frames = some outer → s.heap.objs.size ≤ s2.heap.objs.size → Rest X [] s' s2 H2 → W.wk [] s2 H2 → sp vs H2 W qf →
      Seg (model P w) A (GR (wA X A) s.heap.objs.size W qf) (GY (wA X A) s.heap.objs.size W) sizeLine s2 c ((model P w).den c) [] s2
structure GFn (P : Program) (w : World) (K : PySem.W.Frag) (mg : Str → Option Value) (base : Heap) (k : Nat) (f : Addr) (fd : FuncData) (ps : List Str) (sp : SpG) : Prop where
  run : ∀ (A : Around) (outer : List Env) (s : Shared) (H : Hp) (args : Args) (us : List Value) (vs : List V), Room k A → Env0 P w K mg base A outer s H → BindsTo s fd args (ps.zip us) → Vals vs us → vs.length = ps.length →
    codeAny (model P w) A (.call (.ref f) args) (fun r s' => match r with | .ok (.ret u) => GMade P w base k outer sp vs s u s' | _ => False) s

theorem inv_pn {P : Program} {w : World} {K : PySem.W.Frag} {mg : Str → Option Value} {base : Heap} {N : List Str} {qual : Str} {scope : Scope} {f : Addr} {cd : Value} {A : Around} {outer : List Env} {n : Nat} {pn : List (Addr × Obj)} {s s1 : Shared} {H H' : Hp} {σ : L2.St}
    (I : Inv (gxOf P w K mg base N qual scope f cd A outer n [] s H) [] σ H' s1)
    (h : ∀ p ∈ pn, s1.heap.get? p.1 = some p.2 ∧ H' p.1 = none ∧ p.1 ≠ (envOfC qual scope n f cd).locals ∧ p.1 ∉ frs outer ∧ ∀ v, p.2.data ≠ .cell v) :
    Inv (gxOf P w K mg base N qual scope f cd A outer n pn s H) [] σ H' s1 :=
  ⟨⟨I.ok.mod, I.ok.kind, I.ok.glob, I.ok.blt, I.ok.above, I.ok.inj, I.ok.has, I.ok.cab, I.ok.hd, I.ok.frames, I.ok.stk, I.ok.exf, I.ok.bs, I.ok.bsz, I.ok.noex, I.ok.exfs, I.ok.funs, I.ok.frf⟩, I.os, I.bare, I.base, I.loc, I.cell, I.free, I.freeC,
    fun p hp => h p ((List.mem_append.mp hp).elim id fun z => by simp at z), I.hok, I.len⟩

/-- the frame runs below another around: nothing else changes -/
theorem inv_A {X : Cx} {A : Around} {ip : List (Addr × Obj)} {σ : L2.St} {H : Hp} {s : Shared} (I : Inv X ip σ H s) (hd : A.handled = none) (hfr : A.frames = some X.stack) : Inv { X with A := A } ip σ H s :=
  ⟨⟨I.ok.mod, I.ok.kind, I.ok.glob, I.ok.blt, I.ok.above, I.ok.inj, I.ok.has, I.ok.cab, fun _ => hd, hfr, I.ok.stk, I.ok.exf, I.ok.bs, I.ok.bsz, I.ok.noex, I.ok.exfs, I.ok.funs, I.ok.frf⟩, I.os, I.bare, I.base, I.loc, I.cell, I.free, I.freeC, I.pin, I.hok, I.len⟩

theorem gfn_of {P : Program} {w : World} {K : PySem.W.Frag} {mg : Str → Option Value} {base : Heap} {k : Nat} {f : Addr} {name qual : Str} {params : Arguments} {body : List Stmt} {scope : Scope} {dV kV doc pm cdv ct oc : Value} {an od : Option Addr}
    {osl : Array (Option Value)} {N ps : List Str} {sp : SpG} (lk : K.lookup f = some ⟨oc, od, .func (PySem.W.fnOf name qual params body scope dV kV doc pm an cdv ct), osl⟩) (hcd : PySem.W.codeIn K cdv qual = true) (S : GScope N ps scope)
    (hbody : ∀ (A : Around) (outer : List Env) (n : Nat) (s : Shared) (H : Hp) (vs : List V) (pn : List (Addr × Obj)), Room k (A.deeper (envOfC qual scope n f cdv)) → vs.length = ps.length →
      ∃ t, GSs (gxOf P w K mg base N qual scope f cdv A outer n pn s H) n body t ∧ ∀ W qf H2, sp vs H2 W qf → t W { nx := fun ys Hw _ H' => qf ys Hw H', rt := fun ys Hw v H' => v = .non ∧ qf ys Hw H' } [] H2 (start N vs) H2) :
    GFn P w K mg base (k + 1) f (PySem.W.fnOf name qual params body scope dV kV doc pm an cdv ct) ps sp := by
  refine ⟨fun A outer s H args us vs hr e0 hb r hl => ?_⟩
  have KX : K.In s.heap := e0.mod.kin.keeps fun b o e => (e0.bs b o e).1
  have lim : s.heap.NoLimit := e0.mod.nolimit.keeps fun b o e => (e0.bs b o e).1
  have hkind : ∀ y ∈ ps.zip us, scope.names.lookup y.1 = some .local ∨ (scope.names.lookup y.1 = some .cell ∧ ((cellsFrom (s.heap.objs.size + 1) scope.names []).lookup y.1).isSome = true) := fun ⟨n, v⟩ hy => by
    rcases S.par n (List.of_mem_zip hy).1 with q | q
    · exact .inl q
    · exact .inr ⟨q, PySem.W.cellsFrom_some _ _ _ (.inl q)⟩
  refine codeAny_call_generator hr.depth (KX _ _ lk) rfl S.co S.gen rfl (PySem.W.codeRec_of KX hcd) (hb _ _ _ _ ?_)
  refine wpAny_newFunctionEnv_cells S.kind hkind fun env he s1 x => ?_
  subst he
  have lim1 : s1.heap.NoLimit := lim.keeps x.toInCall.keep
  refine ⟨lim1, ?_⟩
  obtain ⟨h1, tk, es1, hk1⟩ := x.done
  have os1 : s1.os = s.os := by rw [es1]
  have gen1 : s1.gens = s.gens := by rw [es1]
  have lt1 : s.heap.objs.size < s1.heap.objs.size := x.toInCall.ns.lt
  have sz1 : s.heap.objs.size ≤ s1.heap.objs.size := Nat.le_of_lt lt1
  have kp1 : ∀ b o, s.heap.get? b = some o → s1.heap.get? b = some o := x.toInCall.keep
  have main : ∀ (go : Obj) (nm qn : Value) (tk2 : Nat), go.cls = .type "generator" → go.data = .fields #[.int s1.gens.size 0, nm, qn] → go.slots = #[] → (∀ h : Heap, (h.push go).get? h.objs.size = some go) →
      GMade P w base (k + 1) outer sp vs s (.ref s1.heap.objs.size) { s1 with gens := s1.gens.push (.fresh (.func body (envOfC qual scope s.heap.objs.size f cdv))), toks := tk2, heap := s1.heap.push go } := by
    intro go nm qn tk2 hgc hgd0 hgs hgp
    have hgen : ∀ h : Heap, h.get? s1.heap.objs.size = some go → h.IsGen s1.heap.objs.size s1.gens.size := fun h e => ⟨go, nm, qn, e, hgc, hgd0, hgs⟩
    have hpushed : (s1.heap.push go).get? s1.heap.objs.size = some go := hgp _
    have hgd : ∀ v, go.data ≠ .cell v := fun v q => by rw [hgd0] at q; cases q
    have I1 : Inv (gxOf P w K mg base N qual scope f cdv A outer s.heap.objs.size [] s H) [] (start N vs) H s1 :=
      (inv_startG (E := fun _ _ _ => False) S hr.hd e0 hl r x).wish fun _ _ => False
    have kp2 : ∀ b o, s1.heap.get? b = some o → (s1.heap.push go).get? b = some o := fun b o e => Heap.get?_push_of_some _ e
    have bare2 : AllBare (s1.gens.push (.fresh (.func body (envOfC qual scope s.heap.objs.size f cdv)))) := AllBare.push (by rw [gen1]; exact e0.bare) rfl
    have I2 : Inv (gxOf P w K mg base N qual scope f cdv A outer s.heap.objs.size [] s H) [] (start N vs) H { s1 with gens := s1.gens.push (.fresh (.func body (envOfC qual scope s.heap.objs.size f cdv))), toks := tk2, heap := s1.heap.push go } :=
      I1.call' (ch := []) rfl (Un.kept kp2) (I1.hok.kept kp2) bare2 fun b z => by simp at z
    have y1 : H s1.heap.objs.size = none := I1.hok.fresh (Nat.le_refl _)
    have y2 : s1.heap.objs.size ≠ s.heap.objs.size := Nat.ne_of_gt lt1
    have y3 : s1.heap.objs.size ∉ frs outer := I1.nofs (Nat.le_refl _)
    have I3 : Inv (gxOf P w K mg base N qual scope f cdv A outer s.heap.objs.size [(s1.heap.objs.size, go)] s H) [] (start N vs) H { s1 with gens := s1.gens.push (.fresh (.func body (envOfC qual scope s.heap.objs.size f cdv))), toks := tk2, heap := s1.heap.push go } :=
      inv_pn I2 fun p hp => by
        rw [List.mem_singleton.mp hp]
        exact ⟨hpushed, y1, y2, y3, hgd⟩
    refine ⟨gxOf P w K mg base N qual scope f cdv A outer s.heap.objs.size [(s1.heap.objs.size, go)] s H, s1.heap.objs.size, s1.gens.size, _, ⟨rfl, rfl, rfl, rfl, rfl⟩, rfl, ⟨go, List.mem_singleton.mpr rfl, hgen⟩, fun b hb => ?_, fun b hb => ?_, hgen _ hpushed, Array.getElem?_push_size .., os1, bare2,
      lim1.keeps fun b o e => Heap.get?_push_of_some _ e, fun b o e => kp2 b o (kp1 b o e), ?_⟩
    · rcases hb with e | ⟨y, e⟩ | ⟨p, hp, e⟩
      · rw [e]; exact Nat.le_refl _
      · exact I3.ok.cab y b rfl e
      · have hp' : p ∈ [(s1.heap.objs.size, go)] := by simpa [gxOf] using hp
        rw [← e, List.mem_singleton.mp hp']; exact sz1
    · rcases hb with e | ⟨y, e⟩ | ⟨p, hp, e⟩
      · obtain ⟨m, ⟨o, _, _, ho, _⟩, _⟩ := I3.loc
        exact ⟨o, by rw [e]; exact ho⟩
      · obtain ⟨v, o, ho, _⟩ := I3.cell y b e
        exact ⟨o, ho⟩
      · exact ⟨p.2, by rw [← e]; exact (I3.pin p hp).1⟩
    intro Aw W qf s2 H2 hrw hfr hn2 hrest hwk hsp
    obtain ⟨t, ht, hq⟩ := hbody Aw outer s.heap.objs.size s H vs [(s1.heap.objs.size, go)] (hrw.deeper _) hl
    have I3w : Inv (gxOf P w K mg base N qual scope f cdv Aw outer s.heap.objs.size [(s1.heap.objs.size, go)] s H) [] (start N vs) H { s1 with gens := s1.gens.push (.fresh (.func body (envOfC qual scope s.heap.objs.size f cdv))), toks := tk2, heap := s1.heap.push go } :=
      inv_A I3 (A := Aw.deeper (envOfC qual scope s.heap.objs.size f cdv)) hrw.hd (Around.frames_deeper hfr)
    have hG : GI (gxOf P w K mg base N qual scope f cdv Aw outer s.heap.objs.size [(s1.heap.objs.size, go)] s H) s.heap.objs.size [] s2 H2 (start N vs) H2 s2 :=
      ⟨hn2, fun p hp => by simp at hp, rebase (X := gxOf P w K mg base N qual scope f cdv Aw outer s.heap.objs.size [(s1.heap.objs.size, go)] s H) (s0 := s) (H0 := H) rfl hn2 I3w ⟨hrest.kept, hrest.free, hrest.bs, hrest.funs, hrest.frf, hrest.hok, hrest.bare⟩⟩
    show Seg (model P w) Aw (GR (gxOf P w K mg base N qual scope f cdv Aw outer s.heap.objs.size [(s1.heap.objs.size, go)] s H) s.heap.objs.size W qf) (GY (gxOf P w K mg base N qual scope f cdv Aw outer s.heap.objs.size [(s1.heap.objs.size, go)] s H) s.heap.objs.size W) sizeLine s2 _ _ [] s2
    refine seg_func ?_
    refine ht.run W Aw [] _ sizeLine [] s2 H2 _ [] _ _ id id s2 (start N vs) H2 _ ⟨over_func, rfl, rfl, rfl⟩ (Nat.add_zero _) ⟨fun m ys s₀ Hw s' fl hm hwk' hs => ?_⟩ hG hwk (hq W qf H2 hsp)
    cases fl with
    | next =>
      obtain ⟨σ', H', hI, hQ⟩ := hs
      exact seg_end (.ok (.ret .none)) (.inl ⟨.inl rfl, ys, [], σ', Hw, H', hI, hwk', hQ⟩)
    | brk => obtain ⟨_, _, _, q⟩ := hs; exact False.elim q
    | cont => obtain ⟨_, _, _, q⟩ := hs; exact False.elim q
    | ret u =>
      obtain ⟨v, σ', H', hI, rv, ev, hQ⟩ := hs
      subst ev
      have eu : u = Value.none := rv
      subst eu
      exact seg_end (.ok (.ret Value.none)) (.inl ⟨.inl rfl, ys, [], σ', Hw, H', hI, hwk', hQ⟩)
  exact main _ _ _ _ rfl rfl rfl fun h => Heap.get?_push_size _ rfl
end GF
set_option Elab.async false
set_option linter.all false
set_option maxRecDepth 100000
set_option maxHeartbeats 1000000
namespace GF
open PySem PySem.Spec PyProof.Rows L2 GenW

/-! ### the consumer: what the sleeping generator owns is hidden -/
open Classical in
noncomputable def hid (S : Addr → Prop) (hs : Heap) (H : Hp) : Hp := fun b => if S b then some (.ext fun h => ∃ o, hs.get? b = some o ∧ h.get? b = some o) else H b
open Classical in
noncomputable def unhid (S : Addr → Prop) (H : Hp) : Hp := fun b => if S b then none else H b
theorem hid_in {S : Addr → Prop} {hs : Heap} {H : Hp} {b : Addr} (h : S b) : hid S hs H b = some (.ext fun h => ∃ o, hs.get? b = some o ∧ h.get? b = some o) := by unfold hid; rw [if_pos h]
theorem hid_out {S : Addr → Prop} {hs : Heap} {H : Hp} {b : Addr} (h : ¬ S b) : hid S hs H b = H b := by unfold hid; rw [if_neg h]
theorem unhid_in {S : Addr → Prop} {H : Hp} {b : Addr} (h : S b) : unhid S H b = none := by unfold unhid; rw [if_pos h]
theorem unhid_out {S : Addr → Prop} {H : Hp} {b : Addr} (h : ¬ S b) : unhid S H b = H b := by unfold unhid; rw [if_neg h]

/-- hidden: Hc is H and more, at S -/
structure Hid (S : Addr → Prop) (H Hc : Hp) : Prop where
  inn : ∀ b, S b → H b = none ∧ ∃ φ, Hc b = some (.ext φ)
  out : ∀ b, ¬ S b → Hc b = H b
theorem Hid.up {S : Addr → Prop} {H Hc : Hp} (h : Hid S H Hc) {b : Addr} {o : HO} (e : H b = some o) : Hc b = some o := by
  have n : ¬ S b := fun z => by rw [(h.inn b z).1] at e; cases e
  rw [h.out b n]; exact e
theorem Hid.nS {S : Addr → Prop} {H Hc : Hp} (h : Hid S H Hc) {b : Addr} {o : HO} (e : H b = some o) : ¬ S b := fun z => by rw [(h.inn b z).1] at e; cases e
theorem Hid.un {S : Addr → Prop} {H Hc : Hp} (h : Hid S H Hc) : unhid S Hc = H := by
  funext b
  by_cases hb : S b
  · rw [unhid_in hb, (h.inn b hb).1]
  · rw [unhid_out hb, h.out b hb]
theorem unhid_upd {S : Addr → Prop} {H : Hp} {b : Addr} {o : HO} (n : ¬ S b) : unhid S (upd H b o) = upd (unhid S H) b o := by
  funext c
  by_cases hc : S c
  · have ne : c ≠ b := fun z => n (z ▸ hc)
    rw [unhid_in hc, upd_ne ne, unhid_in hc]
  · rw [unhid_out hc]
    by_cases e : c = b
    · subst e; rw [upd_same, upd_same]
    · rw [upd_ne e, upd_ne e, unhid_out hc]

section
variable {X : Cx} {pins : List (Addr × Obj)} {σ : L2.St} {H Hc : Hp} {s : Shared} {n : Nat} {S : Addr → Prop}
/-- everything of the consumer's frame lies below n -/
structure Below (X : Cx) (pins : List (Addr × Obj)) (n : Nat) : Prop where
  entry : X.s_0.heap.objs.size ≤ n
  loc : X.env.locals < n
  cell : ∀ x c, X.env.cells.lookup x = some c → c < n
  pin : ∀ p ∈ X.pn ++ pins, p.1 < n
theorem Inv.below (I : Inv X pins σ H s) : Below X pins s.heap.objs.size :=
  ⟨I.sz, I.lt, fun x c e => let ⟨_, q⟩ := I.cell x c e; q.lt, fun p hp => Heap.lt_size (I.pin p hp).1⟩
theorem inv_hid (B : Below X pins n) (I : Inv X pins σ H s) (hS : ∀ b, S b → n ≤ b ∧ H b = none ∧ ∃ o, s.heap.get? b = some o) : Inv X pins σ (hid S s.heap H) s := by
  have low : ∀ b, b < n → hid S s.heap H b = H b := fun b hb => hid_out fun z => absurd (hS b z).1 (by omega)
  have up : ∀ b u, H b = some u → hid S s.heap H b = some u := fun b u e => by
    rw [hid_out fun z => by rw [(hS b z).2.1] at e; cases e]; exact e
  refine ⟨I.ok, I.os, I.bare, ⟨I.base.keep, I.base.slot, fun b o e n1 hx => ?_, I.base.there, fun b xs e => up _ _ (I.base.tups b xs e), fun b o u e => up _ _ (I.base.frzs b o u e), fun b ps e => ?_⟩, I.loc, I.cell, ?_, fun x c e => ?_, fun p hp => ?_, fun b u e => ?_, I.len⟩
  · rw [low b (Nat.lt_of_lt_of_le (Heap.lt_size e) B.entry)]
    exact I.base.free b o e n1 hx
  · obtain ⟨more, e1⟩ := I.base.tbls b ps e
    exact ⟨more, up _ _ e1⟩
  · rw [low _ B.loc]; exact I.free
  · rw [low _ (B.cell x c e)]; exact I.freeC x c e
  · obtain ⟨e, n1, r⟩ := I.pin p hp
    exact ⟨e, by rw [low _ (B.pin p hp)]; exact n1, r⟩
  · by_cases hb : S b
    · rw [hid_in hb] at e
      cases e
      obtain ⟨_, _, o, ho⟩ := hS b hb
      exact ⟨⟨o, ho, ho⟩, ⟨o, ho⟩, fun h1 h2 ⟨o', e1, e2⟩ k => ⟨o', e1, k o' e2⟩⟩
    · rw [hid_out hb] at e
      exact (I.hok b u e).stay (fun c v _ q => q) (fun c q => up _ _ q) fun c xs q => up _ _ q
theorem inv_unhid (B : Below X pins n) (I : Inv X pins σ Hc s) (hS : ∀ b, S b → n ≤ b ∧ ∃ φ, Hc b = some (.ext φ)) : Inv X pins σ (unhid S Hc) s := by
  have low : ∀ b, b < n → unhid S Hc b = Hc b := fun b hb => unhid_out fun z => absurd (hS b z).1 (by omega)
  have up : ∀ b u, Hc b = some u → (∀ φ, u ≠ .ext φ) → unhid S Hc b = some u := fun b u e d => by
    rw [unhid_out fun z => by
      obtain ⟨φ, q⟩ := (hS b z).2
      rw [q] at e
      exact d φ (Option.some.inj e).symm]
    exact e
  refine ⟨I.ok, I.os, I.bare, ⟨I.base.keep, I.base.slot, fun b o e n1 hx => ?_, I.base.there, fun b xs e => up _ _ (I.base.tups b xs e) (fun _ z => nomatch z), fun b o u e => up _ _ (I.base.frzs b o u e) (fun _ z => nomatch z), fun b ps e => ?_⟩, I.loc, I.cell, ?_, fun x c e => ?_, fun p hp => ?_, fun b u e => ?_, I.len⟩
  · rw [low b (Nat.lt_of_lt_of_le (Heap.lt_size e) B.entry)]
    exact I.base.free b o e n1 hx
  · obtain ⟨more, e1⟩ := I.base.tbls b ps e
    exact ⟨more, up _ _ e1 (fun _ z => nomatch z)⟩
  · rw [low _ B.loc]; exact I.free
  · rw [low _ (B.cell x c e)]; exact I.freeC x c e
  · obtain ⟨e, n1, r⟩ := I.pin p hp
    exact ⟨e, by rw [low _ (B.pin p hp)]; exact n1, r⟩
  · by_cases hb : S b
    · rw [unhid_in hb] at e; cases e
    · rw [unhid_out hb] at e
      exact (I.hok b u e).stay (fun c v _ q => q) (fun c q => up _ _ q (fun _ z => nomatch z)) fun c xs q => up _ _ q (fun _ z => nomatch z)
/-- the state with another table of generators -/
theorem inv_gens {g' : Array GenState} (I : Inv X pins σ H s) (hg : AllBare g') : Inv X pins σ H { s with gens := g' } :=
  ⟨I.ok, I.os, hg, I.base, I.loc, I.cell, I.free, I.freeC, I.pin, I.hok, I.len⟩

/-- behind a wake: the consumer's frame stands -/
theorem inv_woken {X0 : Cx} {ip : List (Addr × Obj)} {σg : L2.St} {Hw : Hp} {s₀ s₁ : Shared} {H' : Hp} (B : Below X pins n) (Iw : Inv X pins σ Hw s₀) (hn : n ≤ s₀.heap.objs.size) (hp : X0.prog = X.prog) (hw : X0.w = X.w) (ho : X0.outer = X.stack) (hx : X0.ex = [])
    (Ig : Inv (atc X0 (cutS s₀ n) Hw) ip σg H' s₁) : Inv X pins σ H' s₁ := by
  have ok := Iw.ok
  have U : Un (frs X.stack) [] Hw H' (cutH s₀.heap n) s₁.heap := by
    have q := Ig.base
    have q' : Un (frs X0.outer) X0.ex Hw H' (cutH s₀.heap n) s₁.heap := q
    rw [ho, hx] at q'
    exact q'
  have cut : ∀ {b o}, b < n → s₀.heap.get? b = some o → (cutH s₀.heap n).get? b = some o := fun {b o} hb e => by rw [cutH_get hb]; exact e
  have nx : ∀ b : Addr, b ∉ ([] : List Addr) := fun b z => by simp at z
  have sub : ∀ b, b ∈ X.fs → b ∈ frs X.stack := fun b hb => by
    rcases ok.stk with e | ⟨e, hf⟩
    · rw [e]; exact hb
    · rw [e]; unfold frs; rw [List.filterMap_cons, hf]; exact List.mem_cons_of_mem _ hb
  have nst : ∀ b, b ≠ X.env.locals → b ∉ X.fs → b ∉ frs X.stack := fun b h1 h2 h3 => by
    rcases List.mem_cons.mp (Iw.stkSub b h3) with z | z
    · exact h1 z
    · exact h2 z
  have anyc : ∀ {b o}, b < n → s₀.heap.get? b = some o → Hw b = none → ∃ sl, s₁.heap.get? b = some { o with slots := sl } := fun {b o} hb e n1 => U.any (cut hb e) n1 (nx b)
  refine ⟨ok, ?_, Ig.bare, ⟨fun b o e n1 h1 h2 => ?_, fun b o e n1 h1 h2 => ?_, fun b o e n1 h2 => ?_, fun b o e h2 => ?_, fun b xs e => U.tups b xs (Iw.base.tups b xs e), fun b o xs e => U.frzs b o xs (Iw.base.frzs b o xs e), fun b ps e => ?_⟩, ?_, fun x c e => ?_, ?_, fun x c e => ?_, fun p hp => ?_, ?_, Iw.len⟩
  · have q : s₁.os = s₀.os := Ig.os
    rw [q]; exact Iw.os
  · have l := Nat.lt_of_lt_of_le (Heap.lt_size e) B.entry
    exact U.keep b o (cut l (Iw.base.keep b o e n1 h1 h2)) (Iw.base.free b o e n1 h2) (nst b (Nat.ne_of_lt (Nat.lt_of_lt_of_le (Heap.lt_size e) ok.above)) h1) (nx b)
  · have l := Nat.lt_of_lt_of_le (Heap.lt_size e) B.entry
    obtain ⟨sl, e1⟩ := Iw.base.slot b o e n1 h1 h2
    obtain ⟨sl2, e2⟩ := anyc l e1 (Iw.base.free b o e n1 h2)
    exact ⟨sl2, e2⟩
  · have l := Nat.lt_of_lt_of_le (Heap.lt_size e) B.entry
    obtain ⟨o', e1⟩ := Iw.base.there b o e h2
    exact U.free b o' (cut l e1) (Iw.base.free b o e n1 h2) (nx b)
  · have l := Nat.lt_of_lt_of_le (Heap.lt_size e) B.entry
    obtain ⟨o', e1⟩ := Iw.base.there b o e h2
    exact U.there b o' (cut l e1) (nx b)
  · obtain ⟨m1, e1⟩ := Iw.base.tbls b ps e
    obtain ⟨m2, e2⟩ := U.tbls b _ e1
    exact ⟨m1 ++ m2, by rw [e2, Array.append_assoc]⟩
  · obtain ⟨m, ⟨o, es, ep, ho1, r1⟩, hl⟩ := Iw.loc
    obtain ⟨sl, e1⟩ := anyc B.loc ho1 Iw.free
    refine ⟨m, ⟨_, es, ep, e1, r1⟩, fun i x v h1 h2 h3 => ?_⟩
    obtain ⟨u, rv, l⟩ := hl i x v h1 h2 h3
    refine ⟨u, rv, ?_⟩
    rcases l with l | ⟨k, c, e, oc, hoc, hd⟩
    · exact .inl l
    · obtain ⟨sl2, e2⟩ := anyc (B.cell x c e) hoc (Iw.freeC x c e)
      exact .inr ⟨k, c, e, _, e2, hd⟩
  · obtain ⟨v, oc, hoc, hd⟩ := Iw.cell x c e
    obtain ⟨sl2, e2⟩ := anyc (B.cell x c e) hoc (Iw.freeC x c e)
    exact ⟨v, _, e2, hd⟩
  · obtain ⟨m, ⟨o, es, ep, ho1, r1⟩, hl⟩ := Iw.loc
    exact U.free _ o (cut B.loc ho1) Iw.free (nx _)
  · obtain ⟨v, oc, hoc, hd⟩ := Iw.cell x c e
    exact U.free _ oc (cut (B.cell x c e) hoc) (Iw.freeC x c e) (nx _)
  · obtain ⟨e, n1, ne, nf, d⟩ := Iw.pin p hp
    exact ⟨U.keep _ _ (cut (B.pin p hp) e) n1 (nst _ ne nf) (nx _), U.free _ _ (cut (B.pin p hp) e) n1 (nx _), ne, nf, d⟩
  · have q := Ig.hok
    have q' : HOk X0.prog X0.w H' s₁.heap := q
    rw [hp, hw] at q'
    exact q'
end
end GF
set_option Elab.async false
set_option linter.all false
set_option maxRecDepth 100000
set_option maxHeartbeats 1000000
namespace GF
open PySem PySem.Spec PyProof.Rows L2 GenW

/-! ### a consumer's body that wakes no generator: the table of generators stays -/
structure PEg (X : Cx) (e : Expr) (t : TE) : Prop where
  run : ∀ (pins : List (Addr × Obj)) (s : Shared) (σ : L2.St) (H : Hp) (Q : VK), Inv X pins σ H s → t σ H Q → wpAny (model X.prog X.w) X.A (eval e X.env) (fun u s' => s'.gens = s.gens ∧ EP X pins σ Q u s') X.xe s
structure PTg (X : Cx) (e : Expr) (t : TT) : Prop where
  run : ∀ (pins : List (Addr × Obj)) (s : Shared) (σ : L2.St) (H : Hp) (Q : Bool → Hp → Prop), Inv X pins σ H s → t σ H Q → wpAny (model X.prog X.w) X.A (isTrue e X.env (eval e X.env)) (fun b s' => s'.gens = s.gens ∧ TP X pins σ Q b s') X.xe s
structure PSg (X : Cx) (st : Stmt) (t : TS) : Prop where
  run : ∀ (pins : List (Addr × Obj)) (s : Shared) (σ : L2.St) (H : Hp) (D : Ends), Inv X pins σ H s → t D σ H → wpAny (model X.prog X.w) X.A (exec st X.env) (fun f s' => s'.gens = s.gens ∧ SP X pins D f s') X.xe s
structure PSsg (X : Cx) (st : List Stmt) (t : TS) : Prop where
  run : ∀ (pins : List (Addr × Obj)) (s : Shared) (σ : L2.St) (H : Hp) (D : Ends), Inv X pins σ H s → t D σ H → wpAny (model X.prog X.w) X.A (execs st X.env) (fun f s' => s'.gens = s.gens ∧ SP X pins D f s') X.xe s
structure PGg (X : Cx) (target : Expr) (t : TG) : Prop where
  run : ∀ (pins : List (Addr × Obj)) (s : Shared) (σ : L2.St) (H : Hp) (v : V) (u : Value) (Q : L2.St → Hp → Prop), Inv X pins σ H s → RelV v u → t v σ H Q →
    wpAny (model X.prog X.w) X.A (assign target X.env u) (fun _ s' => s'.gens = s.gens ∧ ∃ σ' H', Inv X pins σ' H' s' ∧ Q σ' H') X.xe s
structure PAg (X : Cx) (es : List Expr) (t : TA) : Prop where
  run : ∀ (pos : Pos) (pins : List (Addr × Obj)) (s : Shared) (σ : L2.St) (H : Hp) (Q : List V → Hp → Prop), Inv X pins σ H s → t σ H Q → wpAny (model X.prog X.w) X.A (spliced (backTo pos (starEach es X.env))) (fun us s' => s'.gens = s.gens ∧ AP X pins σ Q us s') X.xe s
section
variable {X : Cx} {pos : Pos}
theorem peg_var {i : Nat} {x : Str} (hN : X.N[i]? = some x) (hv : Vis X.env.scope x) (hd : (x == ("__debug__" : Str)) = false := by decide) (hcd : (x == ("__classdict__" : Str)) = false := by decide) : PEg X (.Name x pos) (tVar i) := by
  refine ⟨fun pins s σ H Q I h => ?_⟩
  obtain ⟨v, e, h⟩ := h
  obtain ⟨m, hn, hl⟩ := I.loc
  obtain ⟨u, r, l⟩ := hl i x v hN e hv
  have fin : s.gens = s.gens ∧ EP X pins σ Q u s := ⟨rfl, v, H, I, r, h⟩
  rcases l with ⟨hk, hm⟩ | ⟨hk, c, hc, hcell⟩
  · exact wpAny_Name (wpAny_loadName_local I.ok.kind hk hn hm fin) hd
  · rcases hk with hk | hk
    · exact wpAny_Name (wpAny_loadName_cell I.ok.kind hk hc hcell fin) hd
    · exact wpAny_Name (wpAny_loadName_free I.ok.kind hk hc hcell fin hcd) hd
theorem pvg (i : Nat) {x : Str} (hN : X.N[i]? = some x := by rfl) (hv : Vis X.env.scope x := by first | exact Or.inl rfl | exact Or.inr (Or.inl rfl) | exact Or.inr (Or.inr rfl)) (hd : (x == ("__debug__" : Str)) = false := by decide)
    (hcd : (x == ("__classdict__" : Str)) = false := by decide) : PEg X (.Name x pos) (tVar i) := peg_var hN hv hd hcd
theorem peg_int {i j} : PEg X (.Constant (.int i) j pos) (tC (.int i)) := ⟨fun _ _ _ H _ I h => wpAny_Constant_int ⟨rfl, .int i, H, I.tok _, ⟨_, rfl⟩, h⟩⟩
theorem pag_one {e : Expr} {te : TE} (ha : PEg X e te) (hs : starEach [e] X.env = [(false, eval e X.env)] := by rfl) : PAg X [e] (tCons te tNil) := by
  refine ⟨fun pos pins s σ H Q I h => ?_⟩
  rw [hs]
  show wpAny _ _ (spliced ((false, eval e X.env) :: backTo pos [])) _ _ s
  refine Calls.spliced_cons (thn (ha.run pins s σ H _ I h) fun u s1 ⟨g1, x, H1, I1, r1, q1⟩ => ?_)
  exact Calls.spliced_nil ⟨g1, [x], H1, I1, .cons r1 .nil, q1⟩
/-- len of a list -/
def rLenL (K : PySem.W.Frag) : List V → Hp → VK → Prop := fun xs H Q => ∃ p ys, xs = [.ref p] ∧ SqL K H p ys ∧ Q (.int ys.length) H
theorem peg_len {e : Expr} {te : TE} {p : Pos} (hg : Gl X "len") (hm : X.mg "len" = none) (ha : PEg X e te) (hs : starEach [e] X.env = [(false, eval e X.env)] := by rfl) : PEg X (.Call (.Name "len" p) [e] [] pos) (tCB (rLenL X.K) (tCons te tNil)) := by
  refine ⟨fun pins s σ H Q I h => ?_⟩
  refine wpAny_Call_Name_kw (ld_blt I hg hm PySem.boot_len ?_ (by decide) (by decide))
  refine PyProof.Rows.callWith_builtin1 (thn ((pag_one ha hs).run pos pins s σ H _ I h) fun us s1 ⟨g1, vs, H1, I1, r1, q1⟩ => ?_) hs rfl
  obtain ⟨q, ys, rfl, hq, q1⟩ := q1
  obtain ⟨u, rfl, rx⟩ := vals1 r1
  cases rx
  have hn := line63
  obtain ⟨its, r', pl, hz⟩ := I1.list hq
  have hlen := r'.length
  exact Calls.call_len_list pl.isList (by simp only [List.size_toArray] <;> omega) ⟨g1, .int ys.length, H1, I1.tok _, ⟨s1.toks + 1, by rw [List.size_toArray, hlen]⟩, q1⟩
theorem peg_add {a b : Expr} {ta tb : TE} (ha : PEg X a ta) (hb : PEg X b tb) : PEg X (.BinOp a .Add b pos) (tAdd ta tb) := by
  refine ⟨fun pins s σ H Q I h => ?_⟩
  refine wpAny_BinOp (thn (ha.run pins s σ H _ I h) fun v s1 ⟨g1, x, H1, I1, r1, q1⟩ => thn (hb.run pins s1 σ H1 _ I1 q1) fun u s2 ⟨g2, y, H2, I2, r2, q2⟩ => ?_)
  obtain ⟨i, j, rfl, rfl, q⟩ := q2
  obtain ⟨t, rfl⟩ := r1
  obtain ⟨t', rfl⟩ := r2
  exact add_int ⟨g2.trans g1, .int _, H2, I2.tok _, ⟨_, rfl⟩, q⟩
/-- a comparison of ints as a test -/
def tTI (p : Int → Int → Bool) (ta tb : TE) : TT := fun σ H Q => ta σ H fun x H1 => tb σ H1 fun y H2 => ∃ i j, x = .int i ∧ y = .int j ∧ Q (p i j) H2
theorem ptg_cmp {op : CmpOp} {p : Int → Int → Bool} {a b : Expr} {ta tb : TE} (ha : PEg X a ta) (hb : PEg X b tb)
    (rule : ∀ (i j : Int) (t u : Tok) (Q : Value → Shared → Prop) (s : Shared), Q (.bool (p i j)) s → wpAny (model X.prog X.w) X.A (compareOp op (.int i t) (.int j u)) Q X.xe s) (hm : behindInMarks op b = false) : PTg X (.Compare a [op] [b] pos) (tTI p ta tb) := by
  refine ⟨fun pins s σ H Q I h => ?_⟩
  refine wpAny_isTrue_Compare1 (thn (ha.run pins s σ H _ I h) fun v s1 ⟨g1, x, H1, I1, r1, q1⟩ => thn (hb.run pins s1 σ H1 _ I1 q1) fun u s2 ⟨g2, y, H2, I2, r2, q2⟩ => ?_) hm
  obtain ⟨i, j, rfl, rfl, q⟩ := q2
  obtain ⟨t, rfl⟩ := r1
  obtain ⟨t', rfl⟩ := r2
  exact rule i j t t' _ s2 (wpAny_truthy_bool ⟨g2.trans g1, H2, I2, q⟩)
theorem ptg_eq {a b : Expr} {ta tb : TE} (ha : PEg X a ta) (hb : PEg X b tb) : PTg X (.Compare a [.Eq] [b] pos) (tTI (fun i j => decide (i = j)) ta tb) :=
  ptg_cmp ha hb (fun _ _ _ _ _ _ h => eq_int (by rw [Bool.beq_eq_decide_eq]; exact h)) (nobehind _ (by decide) (by decide))
theorem ptg_gt {a b : Expr} {ta tb : TE} (ha : PEg X a ta) (hb : PEg X b tb) : PTg X (.Compare a [.Gt] [b] pos) (tTI (fun i j => decide (j < i)) ta tb) :=
  ptg_cmp ha hb (fun _ _ _ _ _ _ h => gt_int h) (nobehind _ (by decide) (by decide))
theorem psg_break : PSg X (.Break pos) tBreak := ⟨fun _ _ σ H _ I h => wpAny_Break ⟨rfl, σ, H, I, h⟩⟩
theorem pssg_nil : PSsg X [] tNext := ⟨fun _ _ σ H _ I h => wpAny_execs_nil ⟨rfl, σ, H, I, h⟩⟩
theorem pssg_cons {st : Stmt} {rest : List Stmt} {t u : TS} (h1 : PSg X st t) (h2 : PSsg X rest u) : PSsg X (st :: rest) (tSeq t u) := by
  refine ⟨fun pins s σ H D I h => ?_⟩
  refine wpAny_execs_cons (thn (h1.run pins s σ H { D with nx := u D } I h) fun f s1 ⟨g1, q⟩ => ?_)
  cases f with
  | next =>
    obtain ⟨σ', H', I', q⟩ := q
    exact thn (h2.run pins s1 σ' H' D I' q) fun f s2 ⟨g2, q2⟩ => ⟨g2.trans g1, q2⟩
  | ret v => exact ⟨g1, q⟩
  | brk => exact ⟨g1, q⟩
  | cont => exact ⟨g1, q⟩
theorem psg_if {c : Expr} {a b : List Stmt} {tc : TT} {t u : TS} (hc : PTg X c tc) (ha : PSsg X a t) (hb : PSsg X b u) : PSg X (.If c a b pos) (tIfS tc t u) := by
  refine ⟨fun pins s σ H D I h => ?_⟩
  refine wpAny_If (thn (hc.run pins s σ H _ I h) fun d s1 ⟨g1, H1, I1, q1⟩ => ?_)
  cases d with
  | true => exact thn (ha.run pins s1 σ H1 D I1 q1) fun f s2 ⟨g2, q2⟩ => ⟨g2.trans g1, q2⟩
  | false => exact thn (hb.run pins s1 σ H1 D I1 q1) fun f s2 ⟨g2, q2⟩ => ⟨g2.trans g1, q2⟩
theorem peg_append {o e : Expr} {to te : TE} {apos cpos : Pos} (ho : PEg X o to) (ha : PEg X e te)
    (hbase : attributeBase o "append" X.env (eval o X.env) = eval o X.env := by rfl)
    (hfew : ((backTo cpos (starEach [e] X.env)).all (fun x => !x.1) && (backToKw cpos (keywordEach [] X.env)).all (fun x => x.1.isSome)
      && decide ([e].length + ([] : List Keyword).length + (if ([] : List Keyword).isEmpty then 0 else 1) < 30)) = true := by rfl)
    (hline : (apos.endLine == cpos.line) = true := by rfl) (hs : starEach [e] X.env = [(false, eval e X.env)] := by rfl) :
    PEg X (.Call (.Attribute o "append" apos) [e] [] cpos) (fun σ H Q => to σ H fun x H1 => (∃ l xs, x = .ref l ∧ H1 l = some (.lst xs)) ∧ te σ H1 fun y H2 => rAppend x [y] H2 Q) := by
  refine ⟨fun pins s σ H Q I h => ?_⟩
  refine wpAny_Call_method_late hbase hfew hline rfl (thn (ho.run pins s σ H _ I h) fun v s1 ⟨g1, x, H1, I1, r1, ⟨l, xs, ex, hl⟩, q1⟩ => ?_)
  subst ex
  have ty : tyV X.K "list" (.ref l) H1 := Or.inl ⟨rfl, xs, .inl (.inl hl)⟩
  obtain ⟨h1, h2⟩ := tyV_is I1 r1 ty
  refine ⟨"list", "list.append", PySem.F.plainAttrs_list, PySem.F.slot_list_append, PySem.F.type_list_append, h1, h2, ?_⟩
  have hA := (pag_one ha hs).run cpos pins s1 σ H1 (fun vs H2 => rAppend (.ref l) vs H2 Q) I1 q1
  rw [hs] at hA ⊢
  refine Calls.callWith_builtin rfl (Calls.evalArgs_plain ?_)
  refine thn hA fun us s2 ⟨g2, vs, H2, I2, rv, q2⟩ => ?_
  obtain ⟨l', xs', y, el, rfl, hH, hz, q⟩ := q2
  cases el
  cases r1
  obtain ⟨u, rfl, ru⟩ := rv.one
  obtain ⟨z, its, n, r, hl', e'⟩ := I2.lstM hH
  refine call_meets F.slot_list_append ⟨_, e', rfl⟩ F.entry_list_append (F.args_list_append_2 _ _) (PySem.list_append l its.toArray n u (by rw [List.size_toArray]; omega)) ⟨e', ?_⟩
  refine ⟨g2.trans g1, .non, _, I2.lset (its' := its ++ [u]) hH e' (by simp) (r.append (.cons ru .nil)) ?_, rfl, q⟩
  rw [List.length_append, List.length_singleton]
  omega
theorem psg_expr {e : Expr} {te : TE} (he : PEg X e te) (hs : swapsWith e none pos.line X.env = pure false := by rfl) : PSg X (.Expr e pos) (tDrop te) := by
  refine ⟨fun pins s σ H D I h => ?_⟩
  exact wpAny_Expr_any (thn (he.run pins s σ H _ I h) fun v s1 ⟨g1, x, H1, I1, r1, q1⟩ => ⟨g1, σ, H1, I1, q1⟩) I.quiet hs
theorem pgg_name {i : Nat} {x : Str} (hN : X.N.Nodup) (hi : X.N[i]? = some x) (hk : X.env.scope.names.lookup x = some .local) : PGg X (.Name x pos) (gName i) := by
  refine ⟨fun pins s σ H v u Q I r hQ => ?_⟩
  refine wpAny_assign_Name ?_
  obtain ⟨m, hn, hl⟩ := id I.loc
  have hcls : (X.env.scope.kind == .class || (X.env.scope.kind == .module && X.env.locals != X.env.globals)) = false := by rw [I.ok.kind]; rfl
  have hiσ : i < σ.length := by rw [I.len]; exact (List.getElem?_eq_some_iff.mp hi).1
  have cne := I.cne
  refine wpAny_storeName_local hk hn (fun h' hn' hs => ?_) hcls
  obtain ⟨oL, _, _, hoL, _⟩ := id hn
  have tracked : HOk X.prog X.w H h' := fun b ob e => by
    refine (I.hok b ob e).stay (fun c w' hc q => (hs.2 c ?_).trans q) (fun _ q => q) fun _ _ q => q
    rintro rfl
    rcases hc with rfl | hc
    · rw [I.free] at e; cases e
    · rw [I.free] at hc; cases hc
  refine ⟨rfl, _, H, ⟨I.ok, I.os, I.bare, ⟨fun b o e n hb hx => ?_, fun b o e n hb hx => ?_, I.base.free, fun b o e hx => ?_, I.base.tups, I.base.frzs, I.base.tbls⟩, ⟨_, hn', fun j y v' e1 e2 e3 => ?_⟩, fun y c e => ?_, I.free, I.freeC, fun p hp => ?_, tracked, by simpa using I.len⟩, hQ⟩
  · exact (hs.2 b (Nat.ne_of_lt (Nat.lt_of_lt_of_le (Heap.lt_size e) I.ok.above))).trans (I.base.keep b o e n hb hx)
  · obtain ⟨sl, e1⟩ := I.base.slot b o e n hb hx
    exact ⟨sl, (hs.2 b (Nat.ne_of_lt (Nat.lt_of_lt_of_le (Heap.lt_size e) I.ok.above))).trans e1⟩
  · obtain ⟨o', e1⟩ := I.base.there b o e hx
    exact ⟨o', (hs.2 b (Nat.ne_of_lt (Nat.lt_of_lt_of_le (Heap.lt_size e) I.ok.above))).trans e1⟩
  · by_cases hj : j = i
    · subst hj
      rw [hi] at e1; cases e1
      rw [List.getElem?_set_self hiσ] at e2
      cases e2
      exact ⟨u, r, .inl ⟨hk, by simp⟩⟩
    · rw [List.getElem?_set_ne (Ne.symm hj)] at e2
      obtain ⟨u', r', q⟩ := hl j y v' e1 e2 e3
      refine ⟨u', r', ?_⟩
      rcases q with ⟨k, e⟩ | ⟨k, c, e, z⟩
      · refine .inl ⟨k, ?_⟩
        have : y ≠ x := fun e => hj (nodup_ix hN e1 (e ▸ hi))
        simp [this, e]
      · exact .inr ⟨k, c, e, z.sameBut hs (cne y c e)⟩
  · obtain ⟨w', z⟩ := I.cell y c e
    exact ⟨w', z.sameBut hs (cne y c e)⟩
  · obtain ⟨e, n, ne, nf, d⟩ := I.pin p hp
    exact ⟨(hs.2 p.1 ne).trans e, n, ne, nf, d⟩
end
end GF
set_option Elab.async false
set_option linter.all false
set_option maxRecDepth 100000
set_option maxHeartbeats 1000000
namespace GF
open PySem PySem.Spec PyProof.Rows L2 GenW

/-- an expression whose value is a generator that has not begun -/
abbrev TGen := L2.St → Hp → ((Hp → GCn → (List V → Hp → Hp → Prop) → Prop) → Hp → Prop) → Prop
structure PGen (X : Cx) (k : Nat) (e : Expr) (tg : TGen) : Prop where
  run : ∀ (pins : List (Addr × Obj)) (s : Shared) (σ : L2.St) (H : Hp) (cont : (Hp → GCn → (List V → Hp → Hp → Prop) → Prop) → Hp → Prop), Inv X pins σ H s → tg σ H cont → wpAny (model X.prog X.w) X.A (eval e X.env)
    (fun u s' => ∃ (sp : SpG) (vs : List V) (H1 : Hp) (sc : Shared), Inv X pins σ H1 sc ∧ GMade X.prog X.w X.base k X.stack sp vs sc u s' ∧ cont (sp vs) H1) X.xe s
/-- for x in g: a word Wc ahead of each wake; qy: what an item is; rs: what the body leaves; qf: the end -/
def tForG (tg : TGen) (g : TG) (tb : TS) : TS := fun D σ H => tg σ H fun spv H1 => ∃ (Wc : List V → L2.St → Hp → Prop) (qy : List V → Hp → V → Hp → Prop) (rs : List V → V → Hp → Hp → Prop) (qf : List V → Hp → Hp → Prop),
  Wc [] σ H1 ∧ (∀ wk, spv H1 ⟨wk, qy, rs⟩ qf) ∧ (∀ ys σ Hw, Wc ys σ Hw → ys.length + 1 < sizeLine) ∧ (∀ ys σ Hw H, Wc ys σ Hw → qf ys Hw H → D.nx σ H) ∧
  ∀ ys σ Hw x H, Wc ys σ Hw → qy ys Hw x H → ∀ S Hc, Hid S H Hc → g x σ Hc fun σ2 Hc2 =>
    tb { D with nx := fun σ' Hc' => (∀ b, S b → Hc' b = Hc b) ∧ Wc (ys ++ [x]) σ' (unhid S Hc') ∧ rs ys x H (unhid S Hc'), ct := fun σ' Hc' => (∀ b, S b → Hc' b = Hc b) ∧ Wc (ys ++ [x]) σ' (unhid S Hc') ∧ rs ys x H (unhid S Hc'), bk := D.nx } σ2 Hc2
section
variable {X : Cx} {pos : Pos}
theorem ps_forG {k : Nat} {x : Str} {xp : Pos} {e : Expr} {body : List Stmt} {tg : TGen} {g : TG} {tb : TS} (hp : PassesOwn (model X.prog X.w) X.A X.env X.xe) (hc : X.calm = true) (hr : Room (k + 1) X.A) (hgen : PGen X k e tg) (hg : PGg X (.Name x xp) g) (hb : PSsg X body tb)
    (hs : ∀ x, foldedSetIterable e X.env x = pure x := by intro _; rfl) : PS X (.For (.Name x xp) e body [] pos) (tForG tg g tb) := by
  refine ⟨fun pins s σ H D I h => ?_⟩
  refine wpAny_For (thn (hgen.run pins s σ H _ I h) fun u s1 h1 => ?_) hs
  obtain ⟨sp, vs, H1, sc, I1, made, Wc, qy, rs, qf, w0, hsp, hlen, hend, hstep⟩ := h1
  obtain ⟨X0, a, gn, c, ⟨ep, ew, eb, eo, ex⟩, rfl, ⟨go, hgo, isg⟩, hown, hthere, hig, hgs, hos, hbare, hlim, hkp, wake⟩ := made
  refine wpAny_pyIter_gen hig ?_
  have I1' : Inv X pins σ H1 s1 := by
    obtain ⟨hh, gg, dd, tt, os'⟩ := s1
    have eo' : os' = sc.os := hos
    subst eo'
    exact I1.call (g' := gg) (d' := dd) (t' := tt) (ch := []) (Un.kept hkp) (I1.hok.kept hkp) hbare fun b z => by simp at z
  have B : Below X pins sc.heap.objs.size := Inv.below I1
  have szOf : ∀ {h : Heap} {b : Addr} {o : Obj}, sc.heap.objs.size ≤ b → h.get? b = some o → sc.heap.objs.size ≤ h.objs.size := fun hb e => Nat.le_of_lt (Nat.lt_of_le_of_lt hb (Heap.lt_size e))
  have aOwn : ∀ ip, Own (wA X0 X.A.in1) ip a := fun ip => .inr (.inr ⟨(a, go), List.mem_append_left _ hgo, rfl⟩)
  have aLow : sc.heap.objs.size ≤ a := hown a (.inr (.inr ⟨(a, go), List.mem_append_left _ hgo, rfl⟩))
  have hh : X.A.handled = none := I.ok.hd hc
  let W : GCn := ⟨fun ys s₀ Hw => ∃ σ', Inv X pins σ' Hw s₀ ∧ Wc ys σ' Hw, qy, rs⟩
  have restOf : ∀ {ip : List (Addr × Obj)} {s₁ s2 : Shared} {σ2 : L2.St} {H2 : Hp}, Inv X pins σ2 H2 s2 → (∀ b o, Own (wA X0 X.A.in1) ip b → s₁.heap.get? b = some o → s2.heap.get? b = some o) → (∀ b, Own (wA X0 X.A.in1) ip b → H2 b = none) → Rest (wA X0 X.A.in1) ip s₁ (s2.setGen gn .running) H2 := by
    intro ip s₁ s2 σ2 H2 I2 h1 h2
    refine ⟨h1, h2, fun b o e => ?_, ?_, ?_, ?_, allBare_setGen I2.bare rfl⟩
    · have e' : X.base.get? b = some o := by rw [← eb]; exact e
      exact I2.bs b o e'
    · show s2.heap.FunFrames X0.base X0.outer
      rw [eb, eo]; exact I2.stack
    · show ∀ b ∈ frs X0.outer, H2 b = none
      rw [eo]; exact I2.stkFree
    · show HOk X0.prog X0.w H2 s2.heap
      rw [ep, ew]; exact I2.hok
  refine codeAny_forLoop (fun m s' => ∃ ys σ' Hw, m + ys.length = sizeLine ∧ Inv X pins σ' Hw s' ∧ Wc ys σ' Hw ∧ sc.heap.objs.size ≤ s'.heap.objs.size ∧ s'.heap.IsGen a gn ∧
    ∃ gs, s'.gens[gn]? = some gs ∧ gs.Goes (model X.prog X.w) X.A.in1 (GR (wA X0 X.A.in1) sc.heap.objs.size W qf) (GY (wA X0 X.A.in1) sc.heap.objs.size W) m (.send .none) (s'.setGen gn .running)) ?_ sizeLine
    ⟨[], σ, H1, rfl, I1', w0, ?_, hig, _, hgs, rfl, ?_⟩
  · rintro m s3 ⟨ys, σ3, Hw, hm, I3, w3, hn3, isg3, gs, hgs3, hgo3⟩
    have hl3 := hlen ys σ3 Hw w3
    obtain ⟨j, rfl⟩ : ∃ j, m = j + 1 := ⟨m - 1, by omega⟩
    have hgl : gn < s3.gens.size := (Array.getElem?_eq_some_iff.mp hgs3).1
    refine wpAny_passesOwn hp ?_
    refine wpAny_gsz (n := gn + 1) hgl (next_genG (A := X.A) (F := fun _ s₀ s => GF1 (wA X0 X.A.in1) sc.heap.objs.size W qf s₀ s) (Er := fun _ _ => False) hh I3.nolimit hr.depth isg3 hgs3 hgo3 (fun v s₁ gs' hbg hv => ?_) (fun s₁ hf h' hk' => ?_) fun e s₁ he => False.elim he)
    · intro hsz
      obtain ⟨ys', y, ip, σg, Hw', H', hcount, rv, ⟨hn', hip, Ig⟩, ⟨σ4, I4, w4⟩, hqy, hk⟩ := hv
      have Iw : Inv X pins σ4 H' s₁ := inv_woken (X0 := wA X0 X.A.in1) B I4 hn' ep ew eo ex Ig
      have hS : ∀ b, Own (wA X0 X.A.in1) ip b → sc.heap.objs.size ≤ b ∧ H' b = none ∧ ∃ o, s₁.heap.get? b = some o := fun b hb => by
        rcases hb with e | ⟨z, e⟩ | ⟨p, hpp, e⟩
        · obtain ⟨mm, ⟨o, _, _, ho, _⟩, _⟩ := Ig.loc
          subst e
          exact ⟨hown _ (.inl rfl), Ig.free, o, ho⟩
        · obtain ⟨vv, o, ho, _⟩ := Ig.cell z b e
          exact ⟨hown _ (.inr (.inl ⟨z, e⟩)), Ig.freeC z b e, o, ho⟩
        · obtain ⟨e1, e2, _⟩ := Ig.pin p hpp
          subst e
          refine ⟨?_, e2, p.2, e1⟩
          rcases List.mem_append.mp hpp with z | z
          · exact hown _ (.inr (.inr ⟨p, List.mem_append_left _ z, rfl⟩))
          · exact hip p z
      have hsz1 : gn < s₁.gens.size := by
        have q : (s₁.setGen gn gs').gens.size = s₁.gens.size := setGen_size _ _ _
        have hsz' : gn + 1 ≤ (s₁.setGen gn gs').gens.size := hsz
        omega
      have hH : Hid (Own (wA X0 X.A.in1) ip) H' (hid (Own (wA X0 X.A.in1) ip) s₁.heap H') := ⟨fun b hb => ⟨(hS b hb).2.1, _, hid_in hb⟩, fun b hb => hid_out hb⟩
      have Ic : Inv X pins σ4 (hid (Own (wA X0 X.A.in1) ip) s₁.heap H') (s₁.setGen gn gs') := inv_gens (inv_hid B Iw hS) (allBare_setGen Iw.bare hbg)
      refine wpAny_passesOwn hp (thn (hg.run pins _ σ4 _ y v _ Ic rv (hstep ys' σ4 Hw' y H' w4 hqy _ _ hH)) fun _ s5 ⟨g5, σ5, H5, I5, q5⟩ => ?_)
      refine wpAny_passesOwn hp (thn (hb.run pins s5 σ5 H5 _ I5 q5) fun f s6 ⟨g6, q6⟩ => ?_)
      have again : ∀ {σ7 : L2.St} {H7 : Hp}, Inv X pins σ7 H7 s6 → ((∀ b, Own (wA X0 X.A.in1) ip b → H7 b = hid (Own (wA X0 X.A.in1) ip) s₁.heap H' b) ∧ Wc (ys' ++ [y]) σ7 (unhid (Own (wA X0 X.A.in1) ip) H7) ∧ rs ys' y H' (unhid (Own (wA X0 X.A.in1) ip) H7)) →
          ∃ m', m' < j + 1 ∧ ∃ ys σ' Hw, m' + ys.length = sizeLine ∧ Inv X pins σ' Hw s6 ∧ Wc ys σ' Hw ∧ sc.heap.objs.size ≤ s6.heap.objs.size ∧ s6.heap.IsGen a gn ∧
            ∃ gs, s6.gens[gn]? = some gs ∧ gs.Goes (model X.prog X.w) X.A.in1 (GR (wA X0 X.A.in1) sc.heap.objs.size W qf) (GY (wA X0 X.A.in1) sc.heap.objs.size W) m' (.send .none) (s6.setGen gn .running) := fun {σ7 H7} I7 ⟨k7, w7, r7⟩ => by
        have kept7 : ∀ b o, Own (wA X0 X.A.in1) ip b → s₁.heap.get? b = some o → s6.heap.get? b = some o := fun b o hb e => by
          have e7 := k7 b hb
          rw [hid_in hb] at e7
          obtain ⟨⟨o', e1, e2⟩, _⟩ := I7.hok b _ e7
          rw [e] at e1
          cases e1
          exact e2
        have ga : s6.heap.get? a = some go := kept7 a go (aOwn ip) (Ig.pin (a, go) (List.mem_append_left _ hgo)).1
        have I8 : Inv X pins σ7 (unhid (Own (wA X0 X.A.in1) ip) H7) s6 := inv_unhid B I7 fun b hb => ⟨(hS b hb).1, _, (k7 b hb).trans (hid_in hb)⟩
        have g67 : s6.gens[gn]? = some gs' := by
          rw [g6, g5]; exact setGen_at hsz1
        refine ⟨j, Nat.lt_succ_self j, ys' ++ [y], σ7, _, ?_, I8, w7, szOf aLow ga, isg _ ga, gs', g67, ?_⟩
        · rw [List.length_append, List.length_singleton]
          have hc' : j + 1 - 1 + 1 + ys'.length = sizeLine := hcount
          omega
        · refine hk (s6.setGen gn .running) (unhid (Own (wA X0 X.A.in1) ip) H7) (szOf aLow ga) (restOf I8 kept7 fun b hb => unhid_in hb) ⟨σ7, inv_gens I8 (allBare_setGen I8.bare rfl), w7⟩ r7
      cases f with
      | next => obtain ⟨σ7, H7, I7, n7⟩ := q6; exact again I7 n7
      | cont => obtain ⟨σ7, H7, I7, n7⟩ := q6; exact again I7 n7
      | brk => exact q6
      | ret z => exact q6
    · intro hsz
      obtain ⟨ys', ip, σg, Hw', H', ⟨hn', hip, Ig⟩, ⟨σ4, I4, w4⟩, hqf⟩ := hf
      have Iw : Inv X pins σ4 H' s₁ := inv_woken (X0 := wA X0 X.A.in1) B I4 hn' ep ew eo ex Ig
      have If : Inv X pins σ4 H' { s₁.setGen gn .finished with heap := h' } := inv_gens (s := { s₁ with heap := h' }) (Iw.kept (t' := s₁.toks) hk') (allBare_setGen Iw.bare rfl)
      exact wpAny_execs_nil ⟨σ4, H', If, hend ys' σ4 Hw' H' w4 hqf⟩
  · obtain ⟨o, ho⟩ := hthere a (.inr (.inr ⟨(a, go), List.mem_append_left _ hgo, rfl⟩))
    exact szOf aLow ho
  · have fr : ∀ b, Own (wA X0 X.A.in1) [] b → H1 b = none := fun b hb => I1.hok.fresh (hown b hb)
    have hn1 : sc.heap.objs.size ≤ s1.heap.objs.size := by
      obtain ⟨o, ho⟩ := hthere a (.inr (.inr ⟨(a, go), List.mem_append_left _ hgo, rfl⟩))
      exact szOf aLow ho
    have r := restOf (ip := []) (s₁ := s1) I1' (fun b o _ e => e) fr
    exact wake X.A.in1 W qf (s1.setGen gn .running) H1 hr.in1 I.ok.frames hn1 ⟨r.kept, r.free, r.bs, r.funs, r.frf, r.hok, r.bare⟩ ⟨σ, inv_gens I1' (allBare_setGen I1'.bare rfl), w0⟩ (hsp _)
end
end GF
set_option Elab.async false
set_option linter.all false
set_option maxRecDepth 100000
set_option maxHeartbeats 1000000
namespace GF
open PySem PySem.Spec PyProof.Rows L2 GenW
section
variable {X : Cx} {k n : Nat} {f : Addr} {fd : FuncData} {ps ks : List Str} {sp : SpG} {dvs : List V} {ds : List Value} {x : Str} {p pos : Pos} {e : Expr} {es : List Expr} {kws : List Keyword} {t tk : TA} {g : List Value → List Value → List Value} {gV : List V → List V → List V}
theorem run_gen {pins : List (Addr × Obj)} {σ : L2.St} {H : Hp} {s : Shared} {args : Args} {us : List Value} {vs : List V} {cont : (Hp → GCn → (List V → Hp → Hp → Prop) → Prop) → Hp → Prop} {E1 : Value → Shared → Prop} (F : GFn X.prog X.w X.K X.mg X.base k f fd ps sp) (hr : Room k X.A)
    (I : Inv X pins σ H s) (hb : BindsTo s fd args (ps.zip us)) (r : Vals vs us) (hl : vs.length = ps.length) (h : cont (sp vs) H) :
    wpAny (model X.prog X.w) X.A (call (.ref f) args.pos args.kw) (fun u s' => ∃ (sp : SpG) (vs : List V) (H1 : Hp) (sc : Shared), Inv X pins σ H1 sc ∧ GMade X.prog X.w X.base k X.stack sp vs sc u s' ∧ cont (sp vs) H1) E1 s := by
  refine wpAny_call (codeAny_mono (F.run X.A X.stack s H args us vs hr I.env0 hb r hl) fun r s' hq => ?_)
  cases r with
  | error e => exact False.elim hq
  | ok fl =>
    cases fl with
    | ret u => exact ⟨sp, vs, H, s, I, hq, h⟩
    | next => exact False.elim hq
    | brk => exact False.elim hq
    | cont => exact False.elim hq
def tCallG (m : Nat) (sp : SpG) (dvs : List V) (t : TA) : TGen := fun σ H cont => t σ H fun vs H1 => (vs ++ dvs).length = m ∧ cont (sp (vs ++ dvs)) H1
/-- f(e, ..) -/
theorem pgen_call (F : GFn X.prog X.w X.K X.mg X.base k f fd ps sp) (hr : Room k X.A) (hg : Gl X x) (hm : X.mg x = some (.ref f)) (hk : PySem.W.keepIn X.K (.ref f) = true) (hb : Binds X.K fd ps ds) (hd : Vals dvs ds)
    (ha : PA X (e :: es) t) (hdb : (x == ("__debug__" : Str)) = false := by decide) (he : starEach (e :: es) X.env = (false, eval e X.env) :: starEach es X.env := by rfl) (hpl : (backTo pos (starEach es X.env)).any (·.1) = false := by rfl) :
    PGen X k (.Call (.Name x p) (e :: es) [] pos) (tCallG ps.length sp dvs t) := by
  refine ⟨fun pins s σ H cont I h => ?_⟩
  refine wpAny_Call_Name_kw (ld_glob I hg hm ?_ hdb)
  refine PySem.W.callWith_K (h₀ := X.base) I.ok.mod.kin hk (thn (ha.run pos pins s σ H _ I h) fun us s1 ⟨vs, H1, I1, r, hl, q⟩ => ⟨I1.kIn, ?_⟩) he hpl
  have r2 : Vals (vs ++ dvs) (us ++ ds) := r.append hd
  exact run_gen (args := ⟨us, []⟩) F hr I1 (hb s1 us I1.kIn (by rw [← r2.length]; exact hl)) r2 hl q
def tCallGN (n m l : Nat) (sp : SpG) (gV : List V → List V → List V) (t tk : TA) : TGen := fun σ H cont => t σ H fun vs H1 => tk σ H1 fun zs H2 => vs.length = n ∧ zs.length = m ∧ (gV vs zs).length = l ∧ cont (sp (gV vs zs)) H2
/-- f(e, .., k = v, ..) -/
theorem pgen_callN (F : GFn X.prog X.w X.K X.mg X.base k f fd ps sp) (hr : Room k X.A) (hg : Gl X x) (hm : X.mg x = some (.ref f)) (hk : PySem.W.keepIn X.K (.ref f) = true) (hb : KBn X.K fd ps n ks g gV)
    (ha : PA X (e :: es) t) (hkw : PK X kws tk) (hall : (backToKw pos (keywordEach kws X.env)).all (·.1.isSome) = true := by rfl) (hks : (backToKw pos (keywordEach kws X.env)).filterMap (·.1) = ks := by rfl)
    (hdb : (x == ("__debug__" : Str)) = false := by decide) (he : starEach (e :: es) X.env = (false, eval e X.env) :: starEach es X.env := by rfl)
    (hpl : ((backTo pos (starEach (e :: es) X.env)).any (·.1) || (backToKw pos (keywordEach kws X.env)).any (·.1.isNone)) = false := by rfl) :
    PGen X k (.Call (.Name x p) (e :: es) kws pos) (tCallGN n ks.length ps.length sp gV t tk) := by
  refine ⟨fun pins s σ H cont I h => ?_⟩
  refine wpAny_Call_Name_kw (ld_glob I hg hm ?_ hdb)
  refine PySem.W.callWith_KW (h₀ := X.base) I.ok.mod.kin hk hall (thn (ha.run pos pins s σ H _ I h) fun us s1 ⟨vs, H1, I1, r, q⟩ => ?_) hpl he
  refine thn (hkw.run pos pins s1 σ H1 _ I1 q) fun ws s2 ⟨zs, H2, I2, rz, l1, l2, l3, q2⟩ => ⟨I2.kIn, ?_⟩
  rw [hks]
  exact run_gen (args := ⟨us, ks.zip ws⟩) F hr I2 (hb.to s2 us ws I2.kIn (r.length.symm.trans l1) (rz.length.symm.trans l2)) (hb.rel r rz) l3 q2
/-- f(k = v, ..) -/
theorem pgen_callN0 (F : GFn X.prog X.w X.K X.mg X.base k f fd ps sp) (hr : Room k X.A) (hg : Gl X x) (hm : X.mg x = some (.ref f)) (hk : PySem.W.keepIn X.K (.ref f) = true) (hb : KBn X.K fd ps 0 ks g gV)
    (hkw : PK X kws tk) (hall : (backToKw pos (keywordEach kws X.env)).all (·.1.isSome) = true := by rfl) (hks : (backToKw pos (keywordEach kws X.env)).filterMap (·.1) = ks := by rfl)
    (hdb : (x == ("__debug__" : Str)) = false := by decide)
    (hpl : ((backTo pos (starEach [] X.env)).any (·.1) || (backToKw pos (keywordEach kws X.env)).any (·.1.isNone)) = false := by rfl) :
    PGen X k (.Call (.Name x p) [] kws pos) (tCallGN 0 ks.length ps.length sp gV tNil tk) := by
  refine ⟨fun pins s σ H cont I h => ?_⟩
  refine wpAny_Call_Name_kw (ld_glob I hg hm ?_ hdb)
  refine PySem.W.callWith_KW0 (h₀ := X.base) I.ok.mod.kin hk hall ?_ hpl
  refine thn (hkw.run pos pins s σ H _ I h) fun ws s2 ⟨zs, H2, I2, rz, l1, l2, l3, q2⟩ => ⟨I2.kIn, ?_⟩
  rw [hks]
  exact run_gen (us := g [] ws) (vs := gV [] zs) (args := ⟨[], ks.zip ws⟩) F hr I2 (hb.to s2 [] ws I2.kIn rfl (rz.length.symm.trans l2)) (hb.rel .nil rz) l3 q2
end
end GF
set_option Elab.async false
set_option linter.all false
set_option maxRecDepth 100000
set_option maxHeartbeats 1000000
namespace C53
open PySem PySem.Spec PyProof.Rows L2 Ex
def topS (i : Nat) : Stmt := PySem.Challenge.pw_combed_k53_whole_kinds_of_rims.main.body.getD i (.Pass ⟨0, 0, 0, 0⟩)
/-- what the names of the text hold: the built-ins, the constants -/
structure Tx (mg : Str → Option Value) : Prop where
  b_len : mg "len" = none
  b_int : mg "int" = none
  b_bool : mg "bool" = none
  b_str : mg "str" = none
  b_list : mg "list" = none
  b_tuple : mg "tuple" = none
  b_range : mg "range" = none
  b_any : mg "any" = none
  b_all : mg "all" = none
  b_sum : mg "sum" = none
  b_abs : mg "abs" = none
  b_sorted : mg "sorted" = none
  b_isinstance : mg "isinstance" = none
  gcd : mg "gcd" = some (.builtin "math.gcd")
  g_MOST_ARMS : ∃ t, mg "MOST_ARMS" = some (.int 12 t)
  g_MOST_MODULUS : ∃ t, mg "MOST_MODULUS" = some (.int 24 t)
/-- a def that callers know by its promise -/
structure Cal (P : Program) (w : World) (K : PySem.W.Frag) (mg : Str → Option Value) (base : Heap) (k : Nat) (x : Str) (ps : List Str) (sp : Sp) : Prop where
  ex : ∃ f fd, mg x = some (.ref f) ∧ PySem.W.keepIn K (.ref f) = true ∧ Binds K fd ps [] ∧ FnOk P w K mg base CX0 k f fd ps sp
section
variable {X : Cx}
theorem pe_u {k : Nat} {x : Str} {p pos : Pos} {ps : List Str} {sp : Sp} {e : Expr} {es : List Expr} {t : TA} (C : Cal X.prog X.w X.K X.mg X.base k x ps sp) (hr : Room k X.A) (ha : PA X (e :: es) t) (hg : Gl X x := by rfl) (hdb : (x == ("__debug__" : Str)) = false := by decide)
    (he : starEach (e :: es) X.env = (false, eval e X.env) :: starEach es X.env := by rfl) (hpl : (backTo pos (starEach es X.env)).any (·.1) = false := by rfl) : PE X (.Call (.Name x p) (e :: es) [] pos) (tCall sp [] E0 t) := by
  obtain ⟨f, fd, g, kp, b, F⟩ := C.ex
  exact pe_call F hr hg g kp b .nil pass0 ha hdb he hpl
def CDivP : Int → Int → Prop := fun _ j => 0 < j ∧ j < 1073741824
theorem op_fdivP : OpR X (binaryOp .FloorDiv) (rI CDivP fun i j => .int (i / j)) := by
  intro pins s σ H x y v u Q I rx ry h
  obtain ⟨i, j, rfl, rfl, hc, q⟩ := h
  refine op_fdivN pins s σ H _ _ v u Q I rx ry ⟨i, j, rfl, rfl, ⟨by have := hc.1; omega, by have := hc.1; have := hc.2; omega⟩, ?_⟩
  show Q (.int (i.fdiv j)) H
  rw [Int.fdiv_eq_ediv_of_nonneg i (by have := hc.1; omega)]
  exact q
def CPos : Int → Int → Prop := fun _ j => 0 < j
theorem op_modP : OpR X (binaryOp .Mod) (rI CPos fun i j => .int (i % j)) := op_mod
def rIxA (K : PySem.W.Frag) : R2 := fun x y H Q => rIxL K x y H Q ∨ rIxT K x y H Q
theorem ix_A : IxR X (rIxA X.K) := ix_list.or ix_tup
/-! the same with K told (within a comprehension) -/
def rLenA (K : PySem.W.Frag) : List V → Hp → VK → Prop := fun xs H Q => ∃ p ys, xs = [.ref p] ∧ (SqL K H p ys ∨ SqT K H p ys) ∧ Q (.int ys.length) H
theorem call_lenK {K : PySem.W.Frag} (h : X.K = K) : CallR X (.builtin "len") (rLenA K) := by
  subst h
  exact call_len_seq
theorem ix_AK {K : PySem.W.Frag} (h : X.K = K) : IxR X (rIxA K) := by
  subst h
  exact ix_A
theorem call_isiK' {K : PySem.W.Frag} (h : X.K = K) : CallR X (.builtin "isinstance") (rIsi K) := by
  subst h
  exact call_isi
theorem pe_fdK {K : PySem.W.Frag} {e : Expr} {f : Str} {pos : Pos} {ta : TE} (h : X.K = K) (he : PE X e ta) (hb : attributeBase e f X.env (eval e X.env) = eval e X.env) : PE X (.Attribute e f pos) (tFld K ta f) := by
  subst h
  exact pe_fld he hb
end
/-! ### heaps -/
theorem Same.new {H : Hp} {p : Addr} {o : HO} (h : H p = none) : Same H (upd H p o) := fun b x e => by
  rw [upd_ne (ne_of_none e h)]
  exact e
theorem sqA_same {K : PySem.W.Frag} {H H' : Hp} {a : Addr} {xs : List V} (e : Same H H') (h : SqA K H a xs) : SqA K H' a xs := by
  rcases h with (h | h) | (h | h)
  · rcases h with h | ⟨o, h⟩
    · exact .inl (.inl (.inl (e _ _ h)))
    · exact .inl (.inl (.inr ⟨o, e _ _ h⟩))
  · exact .inl (.inr h)
  · rcases h with h | ⟨o, h⟩
    · exact .inr (.inl (.inl (e _ _ h)))
    · exact .inr (.inl (.inr ⟨o, e _ _ h⟩))
  · exact .inr (.inr h)
theorem sqA_l {K : PySem.W.Frag} {H : Hp} {a : Addr} {xs : List V} (h : H a = some (.lst xs)) : SqA K H a xs := .inl (SqL.of h)
theorem sqA_t {K : PySem.W.Frag} {H : Hp} {a : Addr} {xs : List V} (h : H a = some (.tup xs)) : SqA K H a xs := .inr (SqT.of h)
theorem rix_A {K : PySem.W.Frag} {H : Hp} {a : Addr} {xs : List V} {i : Int} {v : V} {Q : VK} (h : SqA K H a xs) (e : atI xs i = some v) (q : Q v H) : rIxA K (.ref a) (.int i) H Q := by
  rcases h with h | h
  · exact .inl ⟨a, xs, i, v, rfl, rfl, h, e, q⟩
  · exact .inr ⟨a, xs, i, v, rfl, rfl, h, e, q⟩
/-! ### comprehensions whose elements are plain values of the items -/
section
variable {K : PySem.W.Frag} {te : TE} {vs : List Nat} {σ : L2.St} {H : Hp} {j : Nat}
theorem take_map_succ {xs : List V} {f : V → V} {i : Nat} {x : V} (h : xs[i]? = some x) : (xs.take (i + 1)).map f = (xs.take i).map f ++ [f x] := by
  rw [List.take_add_one, h, List.map_append]
  rfl
/-- [e for x in xs], e a value of x that leaves the heap -/
theorem tlc_pure {tl : TE} {a : Addr} {xs : List V} {Q : VK} (f : V → V) (hl : ∀ R : VK, R (.ref a) H → tl σ H R) (src : SqA K H a xs) (hz : xs.length < sizeLine) (hw : ∀ x, wipe ((wipe σ vs).set j (some x)) vs = wipe σ vs)
    (hel : ∀ x ∈ xs, ∀ H', Same H H' → ∀ Q' : VK, Q' (f x) H' → te ((wipe σ vs).set j (some x)) H' Q') (hd : ∀ D, H D = none → Q (.ref D) (upd H D (.lst (xs.map f)))) : tLc (iSeq K tl) (gName j) tYes te vs σ H Q := by
  have turn : ∀ D, H D = none → ∀ i x H', xs[i]? = some x → H' = upd H D (.lst ((xs.take i).map f)) → gName j x (wipe σ vs) H' fun σ2 H2 => wipe σ2 vs = wipe σ vs ∧ tYes σ2 H2 fun b H3 =>
      if b = true then te σ2 H3 fun y H4 => ∃ acc, H4 D = some (.lst acc) ∧ acc.length < sizeLine ∧ upd H4 D (.lst (acc ++ [y])) = upd H D (.lst ((xs.take (i + 1)).map f)) else H3 = upd H D (.lst ((xs.take (i + 1)).map f)) := by
    intro D hD i x H' hx e
    refine ⟨hw x, ?_⟩
    unfold tYes
    refine iteT ?_
    subst e
    refine hel x (List.mem_of_getElem? hx) _ (Same.new hD) _ ⟨_, upd_same, ?_, ?_⟩
    · rw [List.length_map, List.length_take]
      exact Nat.lt_of_le_of_lt (Nat.min_le_right _ _) hz
    · rw [upd_upd, take_map_succ hx]
  have stop : ∀ D, H D = none → ∀ H', H' = upd H D (.lst ((xs.take xs.length).map f)) → Q (.ref D) H' := fun D hD H' e => by
    rw [e, List.take_length]
    exact hd D hD
  refine hl _ ⟨a, rfl, ?_⟩
  rcases src with src | src
  · refine .inl ⟨⟨xs, src⟩, fun D hD => lc_list (K := K) (a := a) (xs := xs) (fun i H' => H' = upd H D (.lst ((xs.take i).map f))) (by rfl) (fun i H' _ e => ?_) (turn D hD) (stop D hD)⟩
    rw [e]
    exact (Same.new hD).seq src
  · refine .inr ⟨⟨xs, src⟩, fun D hD => lc_tup (K := K) (a := a) (xs := xs) (fun i H' => H' = upd H D (.lst ((xs.take i).map f))) (by rfl) (fun i H' _ e => ?_) (turn D hD) (stop D hD)⟩
    rw [e]
    rcases sqA_same (Same.new (o := .lst ((xs.take i).map f)) hD) (.inr src : SqA K H a xs) with h | h
    · rcases src with h' | h'
      · rcases h' with h' | ⟨o, h'⟩
        · exact .inl (.inl (Same.new hD _ _ h'))
        · exact .inl (.inr ⟨o, Same.new hD _ _ h'⟩)
      · exact .inr h'
    · exact h
/-- [e for k in range(n)] -/
theorem tlc_range {ta : TA} {n : Int} {Q : VK} (f : Int → V) (hl : ∀ R : List V → Hp → Prop, R [.int n] H → ta σ H R) (hn : 0 ≤ n ∧ n < 1000000) (hw : ∀ x, wipe ((wipe σ vs).set j (some x)) vs = wipe σ vs)
    (hel : ∀ i : Nat, (i : Int) < n → ∀ H', Same H H' → ∀ Q' : VK, Q' (f i) H' → te ((wipe σ vs).set j (some (.int i))) H' Q') (hd : ∀ D, H D = none → Q (.ref D) (upd H D (.lst ((List.range n.toNat).map fun (i : Nat) => f (i : Int))))) : tLc (iRng1 ta) (gName j) tYes te vs σ H Q := by
  refine hl _ ⟨n, rfl, by omega, by omega, fun D hD => lc_range (lo := 0) (n := n.toNat) (fun i H' => H' = upd H D (.lst ((List.range i).map fun (i : Nat) => f (i : Int)))) (by rfl) (fun i H' hi e => ?_) fun H' e => ?_⟩
  · refine ⟨hw _, ?_⟩
    unfold tYes
    refine iteT ?_
    subst e
    have e0 : (0 : Int) + (i : Int) = (i : Int) := Int.zero_add _
    rw [e0]
    refine hel i (by omega) _ (Same.new hD) _ ⟨_, upd_same, ?_, ?_⟩
    · rw [List.length_map, List.length_range]
      exact Nat.lt_of_lt_of_le (by omega) (show 1000000 ≤ sizeLine by decide)
    · rw [upd_upd, List.range_succ, List.map_append]
      rfl
  · rw [e]
    exact hd D hD
end
end C53
set_option Elab.async false
set_option linter.all false
set_option maxRecDepth 100000
set_option maxHeartbeats 1000000
namespace C53
open PySem PySem.Spec PyProof.Rows L2 Ex
/-! ### the texts -/
abbrev s_is_number : Stmt := topS 8
abbrev N_is_number : List Str := ["value"]
theorem sc_is_number : FnScope N_is_number ["value"] (defScope s_is_number) := ⟨rfl, rfl, rfl, by decide +kernel, rfl, by decide +kernel, by decide +kernel⟩
abbrev s_divides : Stmt := topS 16
abbrev N_divides : List Str := ["part", "whole"]
theorem sc_divides : FnScope N_divides ["part", "whole"] (defScope s_divides) := ⟨rfl, rfl, rfl, by decide +kernel, rfl, by decide +kernel, by decide +kernel⟩
abbrev s_has_balance : Stmt := topS 17
abbrev N_has_balance : List Str := ["book", "share"]
theorem sc_has_balance : FnScope N_has_balance ["book", "share"] (defScope s_has_balance) := ⟨rfl, rfl, rfl, by decide +kernel, rfl, by decide +kernel, by decide +kernel⟩
abbrev s_some_odd_rim : Stmt := topS 18
abbrev N_some_odd_rim : List Str := ["book", "rims", "share", "rim"]
theorem sc_some_odd_rim : FnScope N_some_odd_rim ["book", "rims", "share"] (defScope s_some_odd_rim) := ⟨rfl, rfl, rfl, by decide +kernel, rfl, by decide +kernel, by decide +kernel⟩
abbrev s_rims_stand : Stmt := topS 19
abbrev N_rims_stand : List Str := ["book", "rims", "at"]
theorem sc_rims_stand : FnScope N_rims_stand ["book", "rims"] (defScope s_rims_stand) := ⟨rfl, rfl, rfl, by decide +kernel, rfl, by decide +kernel, by decide +kernel⟩
abbrev s_due_sum : Stmt := topS 20
abbrev N_due_sum : List Str := ["book", "handles", "many"]
theorem sc_due_sum : FnScope N_due_sum ["book", "handles", "many"] (defScope s_due_sum) := ⟨rfl, rfl, rfl, by decide +kernel, rfl, by decide +kernel, by decide +kernel⟩
abbrev s_sum_stands : Stmt := topS 21
abbrev N_sum_stands : List Str := ["book", "handles", "rims"]
theorem sc_sum_stands : FnScope N_sum_stands ["book", "handles", "rims"] (defScope s_sum_stands) := ⟨rfl, rfl, rfl, by decide +kernel, rfl, by decide +kernel, by decide +kernel⟩
abbrev s_measure_stands : Stmt := topS 22
abbrev N_measure_stands : List Str := ["book", "rims", "measure", "rim"]
theorem sc_measure_stands : FnScope N_measure_stands ["book", "rims", "measure"] (defScope s_measure_stands) := ⟨rfl, rfl, rfl, by decide +kernel, rfl, by decide +kernel, by decide +kernel⟩
abbrev s_share_stands : Stmt := topS 23
abbrev N_share_stands : List Str := ["book", "rims", "share", "rim"]
theorem sc_share_stands : FnScope N_share_stands ["book", "rims", "share"] (defScope s_share_stands) := ⟨rfl, rfl, rfl, by decide +kernel, rfl, by decide +kernel, by decide +kernel⟩
abbrev s_balance_stands : Stmt := topS 24
abbrev N_balance_stands : List Str := ["book", "rims", "share", "balance"]
theorem sc_balance_stands : FnScope N_balance_stands ["book", "rims", "share", "balance"] (defScope s_balance_stands) := ⟨rfl, rfl, rfl, by decide +kernel, rfl, by decide +kernel, by decide +kernel⟩
abbrev s_broken_count : Stmt := topS 25
abbrev N_broken_count : List Str := ["book", "handles", "rims", "measure", "share", "balance"]
theorem sc_broken_count : FnScope N_broken_count ["book", "handles", "rims", "measure", "share", "balance"] (defScope s_broken_count) := ⟨rfl, rfl, rfl, by decide +kernel, rfl, by decide +kernel, by decide +kernel⟩
/-! ### books -/
def bf (nn mm : Int) : List (Str × V) := [("arms", .int nn), ("modulus", .int mm)]
def IsBook (C : Addr) (H : Hp) (p : Addr) (nn mm : Int) : Prop := ∃ dx, H p = some (.ins C dx (bf nn mm))
theorem bf_arms (nn mm : Int) : (bf nn mm).lookup ("arms" : Str) = some (.int nn) := by with_unfolding_all rfl
theorem bf_modulus (nn mm : Int) : (bf nn mm).lookup ("modulus" : Str) = some (.int mm) := by with_unfolding_all rfl
structure BookC (K : PySem.W.Frag) (C : Addr) : Prop where
  cl : Cls K C
  nA : NoAttr K C "arms"
  nM : NoAttr K C "modulus"
theorem IsBook.same {C : Addr} {H H' : Hp} {p : Addr} {nn mm : Int} (e : Same H H') (h : IsBook C H p nn mm) : IsBook C H' p nn mm := let ⟨dx, q⟩ := h; ⟨dx, e _ _ q⟩
section
variable {K : PySem.W.Frag} {C : Addr} {H : Hp} {p : Addr} {nn mm : Int} {σ : L2.St} {ta : TE} {Q : VK}
theorem rd_arms (B : BookC K C) (hb : IsBook C H p nn mm) (ha : ∀ R : VK, R (.ref p) H → ta σ H R) (q : Q (.int nn) H) : tFld K ta "arms" σ H Q := by
  obtain ⟨dx, h⟩ := hb
  exact ha _ ⟨p, C, dx, _, _, rfl, h, B.cl, B.nA, bf_arms _ _, q⟩
theorem rd_modulus (B : BookC K C) (hb : IsBook C H p nn mm) (ha : ∀ R : VK, R (.ref p) H → ta σ H R) (q : Q (.int mm) H) : tFld K ta "modulus" σ H Q := by
  obtain ⟨dx, h⟩ := hb
  exact ha _ ⟨p, C, dx, _, _, rfl, h, B.cl, B.nM, bf_modulus _ _, q⟩
end
/-! ### the mirrors -/
def dvd' (p x : Int) : Bool := if p = 0 then decide (x = 0) else decide (x % p = 0)
def hasBal (nn mm s : Int) : Bool := decide (nn / s % 2 = 1) && decide (mm / s % 2 = 0)
def oddRim (nn : Int) (rs : List Int) (s : Int) : Bool := rs.any fun r => decide ((r + nn) / s % 2 = 1)
def dueSum (nn h many : Int) : Int := nn * (2 - 2 * h - many)
def sumOk (nn mm h : Int) (rs : List Int) : Bool := dvd' mm (rs.sum - dueSum nn h rs.length)
def measOk (nn mm : Int) (rs : List Int) (m : Int) : Bool := decide ((if mm = 0 then 0 else 1) ≤ m) && dvd' m mm && rs.all fun r => dvd' m (r + nn)
def shareOk (nn mm : Int) (rs : List Int) (s : Int) : Bool := decide (1 ≤ s) && decide (nn % s = 0) && decide (mm % s = 0) && rs.all fun r => decide (r % s = 0)
section
variable {P : Program} {w : World} {K : PySem.W.Frag} {mg : Str → Option Value} {base : Heap} {k : Nat} {f : Addr} {fd : FuncData}
/-! ### divides -/
def spDivides : Sp := fun vs H Q _ => ∃ p x : Int, vs = [.int p, .int x] ∧ 0 ≤ p ∧ Q (.bl (dvd' p x)) H
theorem ok_divides (F : Fun K "divides" "divides" s_divides f fd) : FnOk P w K mg base CX0 (k + 1) f fd ["part", "whole"] spDivides := by
  refine F.ok sc_divides (fun vs H Q E h => ?_) (fun cdv A outer s H vs Q E hr h => ?_)
  · obtain ⟨p, x, rfl, _⟩ := h
    rfl
  · obtain ⟨p, x, rfl, h0, q⟩ := h
    refine ⟨_, (pss_one (ps_ret (pe_ifExp (pt_cmpR op_eq (pv 0) pe_int (nomark _)) (pe_cmpR op_eq (pv 1) pe_int (nomark _)) (pe_cmpR op_eq (pe_op op_modP (pv 1) (pv 0)) pe_int (nomark _))))), ?_⟩
    refine ⟨_, rfl, rfl, _, rfl, ite2 (fun e => ?_) (fun e => ?_)⟩
    · have e' : p = 0 := V.int.inj (of_decide_eq_true e)
      refine ⟨_, rfl, rfl, ?_⟩
      unfold dvd' at q
      rw [if_pos e'] at q
      rw [show decide (V.int x = V.int 0) = decide (x = 0) by simp]
      exact q
    · have e' : p ≠ 0 := fun z => e (by rw [z]; exact decide_eq_true rfl)
      refine ⟨_, rfl, _, rfl, _, _, rfl, rfl, (show (0 : Int) < p by omega), rfl, ?_⟩
      unfold dvd' at q
      rw [if_neg e'] at q
      rw [show decide (V.int (x % p) = V.int 0) = decide (x % p = 0) by simp]
      exact q
local macro_rules | `(tactic| walk_at "rd") => `(tactic| repeat (first | refine ⟨_, rfl, ?_⟩ | refine ⟨_, _, rfl, rfl, ?_⟩ | refine ⟨rfl, ?_⟩))
local macro_rules | `(tactic| walk_at "red") => `(tactic| dsimp only [tNext, tSeq, tIfS, tB, tCB, tCons, tNil, tRet, tAsg, tTest])
theorem decI (x y : Int) : decide (V.int x = V.int y) = decide (x = y) := by simp
/-! ### has_balance -/
def spHasBal (C : Addr) : Sp := fun vs H Q _ => ∃ (p : Addr) (nn mm s : Int), vs = [.ref p, .int s] ∧ IsBook C H p nn mm ∧ (0 < s ∧ s < 1073741824) ∧ Q (.bl (hasBal nn mm s)) H
theorem ok_has_balance {C : Addr} (B : BookC K C) (F : Fun K "has_balance" "has_balance" s_has_balance f fd) : FnOk P w K mg base CX0 (k + 1) f fd ["book", "share"] (spHasBal C) := by
  refine F.ok sc_has_balance (fun vs H Q E h => ?_) (fun cdv A outer s H vs Q E hr h => ?_)
  · obtain ⟨p, nn, mm, s, rfl, _⟩ := h
    rfl
  · obtain ⟨p, nn, mm, sh, rfl, ⟨dx, hb⟩, hs, q⟩ := h
    refine ⟨_, (pss_one (ps_ret (pe_and (pe_cmpR op_eq (pe_op op_modP (pe_op op_fdivP (pe_fld (pv 0) rfl) (pv 1)) pe_int) pe_int (nomark _)) (pe_one (pe_cmpR op_eq (pe_op op_modP (pe_op op_fdivP (pe_fld (pv 0) rfl) (pv 1)) pe_int) pe_int (nomark _)))))), ?_⟩
    refine ⟨_, rfl, p, C, dx, _, _, rfl, hb, B.cl, B.nA, bf_arms _ _, _, rfl, _, _, rfl, rfl, hs, _, _, rfl, rfl, (by show (0 : Int) < 2; decide), rfl, _, rfl, ?_⟩
    unfold hasBal at q
    rw [decI]
    refine ite2 (fun e => ?_) (fun e => ?_)
    · rw [e] at q
      refine ⟨_, rfl, p, C, dx, _, _, rfl, hb, B.cl, B.nM, bf_modulus _ _, _, rfl, _, _, rfl, rfl, hs, _, _, rfl, rfl, (by show (0 : Int) < 2; decide), rfl, ?_⟩
      show Q (.bl (decide (V.int _ = V.int _))) H
      rw [decI]
      exact q
    · rw [Bool.not_eq_true] at e
      rw [e] at q
      exact q
/-! ### some_odd_rim -/
def spOddRim (K : PySem.W.Frag) (C : Addr) : Sp := fun vs H Q _ => ∃ (p a : Addr) (nn mm s : Int) (rs : List Int), vs = [.ref p, .ref a, .int s] ∧ IsBook C H p nn mm ∧ SqA K H a (rs.map V.int) ∧ rs.length ≤ 1000 ∧ (0 < s ∧ s < 1073741824) ∧ ∀ H', Same H H' → Q (.bl (oddRim nn rs s)) H'
theorem any_map (rs : List Int) (f : Int → Bool) : (rs.map f).any id = rs.any f := by simp [List.any_map]
theorem all_map (rs : List Int) (f : Int → Bool) : (rs.map f).all id = rs.all f := by simp [List.all_map]
def onI (g : Int → V) : V → V
  | .int i => g i
  | v => v
theorem onI_map (rs : List Int) (g : Int → V) : (rs.map V.int).map (onI g) = rs.map g := by simp [onI]
theorem len1000 {rs : List Int} (h : rs.length ≤ 1000) : (rs.map V.int).length < sizeLine := by
  rw [List.length_map]
  exact small1000 h
theorem ok_some_odd_rim {C : Addr} (T : Tx mg) (B : BookC K C) (F : Fun K "some_odd_rim" "some_odd_rim" s_some_odd_rim f fd) : FnOk P w K mg base CX0 (k + 1) f fd ["book", "rims", "share"] (spOddRim K C) := by
  refine F.ok sc_some_odd_rim (fun vs H Q E h => ?_) (fun cdv A outer s H vs Q E hr h => ?_)
  · obtain ⟨p, a, nn, mm, s, rs, rfl, _⟩ := h
    rfl
  · obtain ⟨p, a, nn, mm, sh, rs, rfl, ⟨dx, hb⟩, hS, hl, hs, q⟩ := h
    refine ⟨_, (pss_one (ps_ret (pe_callB (cr_any rfl) (by rfl) T.b_any (by decide +kernel) (pa_cons (pe_lc (own := [("rim", 3)]) (g := gName 3) rfl sc_some_odd_rim.nd (pi_seq (pv 1)) (blkOk_by (own := [("rim", 3)]) (N := N_some_odd_rim) (sc := defScope s_some_odd_rim) (by decide +kernel)) (fun _ _ _ _ _ => pg_name (i := 3) sc_some_odd_rim.nd rfl (.inl rfl)) (fun _ _ _ _ _ => pts_nil) (fun _ _ _ _ _ => (pe_cmpR op_eq (pe_op op_modP (pe_op op_fdivP (pe_op op_add (pv 3) (pe_fdK (K := K) rfl (pv 0) rfl)) (pv 2)) pe_int) pe_int (nomark _)))) pa_nil)))), ?_⟩
    walk_at "red"
    refine tlc_pure (onI fun r => .bl (decide ((r + nn) / sh % 2 = 1))) (fun R r => ⟨_, rfl, r⟩) hS (len1000 hl) (fun _ => rfl) (fun x hx H' e Q' q' => ?_) fun D hD => ?_
    · obtain ⟨r, _, rfl⟩ := List.mem_map.mp hx
      refine ⟨_, rfl, _, rfl, p, C, dx, _, _, rfl, e _ _ hb, B.cl, B.nA, bf_arms _ _, _, _, rfl, rfl, _, rfl, _, _, rfl, rfl, hs, _, _, rfl, rfl, (by show (0 : Int) < 2; decide), rfl, ?_⟩
      show Q' (.bl (decide (V.int _ = V.int _))) H'
      rw [decI]
      exact q'
    · rw [onI_map]
      refine ⟨D, rs.map fun r => decide ((r + nn) / sh % 2 = 1), rfl, SqL.of (by rw [upd_same, List.map_map]; rfl), ?_⟩
      rw [any_map]
      exact q _ (Same.new hD)
/-! ### due_sum, sum_stands -/
def spDueSum (C : Addr) : Sp := fun vs H Q _ => ∃ (p : Addr) (nn mm h many : Int), vs = [.ref p, .int h, .int many] ∧ IsBook C H p nn mm ∧ (-1000 < nn ∧ nn < 1000) ∧ Q (.int (dueSum nn h many)) H
theorem ok_due_sum {C : Addr} (B : BookC K C) (F : Fun K "due_sum" "due_sum" s_due_sum f fd) : FnOk P w K mg base CX0 (k + 1) f fd ["book", "handles", "many"] (spDueSum C) := by
  refine F.ok sc_due_sum (fun vs H Q E h => ?_) (fun cdv A outer s H vs Q E hr h => ?_)
  · obtain ⟨p, nn, mm, hh, many, rfl, _⟩ := h
    rfl
  · obtain ⟨p, nn, mm, hh, many, rfl, ⟨dx, hb⟩, hn, q⟩ := h
    refine ⟨_, (pss_one (ps_ret (pe_op op_mul (pe_fld (pv 0) rfl) (pe_op op_sub (pe_op op_sub pe_int (pe_op op_mul pe_int (pv 1))) (pv 2))))), ?_⟩
    exact ⟨_, rfl, p, C, dx, _, _, rfl, hb, B.cl, B.nA, bf_arms _ _, _, rfl, _, _, rfl, rfl, .inl ⟨by decide, by decide⟩, _, _, rfl, rfl, _, rfl, _, _, rfl, rfl, _, _, rfl, rfl, .inl ⟨by omega, by omega⟩, q⟩
def spSumOk (K : PySem.W.Frag) (C : Addr) : Sp := fun vs H Q _ => ∃ (p a : Addr) (nn mm h : Int) (rs : List Int), vs = [.ref p, .int h, .ref a] ∧ IsBook C H p nn mm ∧ SqA K H a (rs.map V.int) ∧ (-1000 < nn ∧ nn < 1000) ∧ 0 ≤ mm ∧ Q (.bl (sumOk nn mm h rs)) H
theorem ok_sum_stands {C : Addr} (T : Tx mg) (B : BookC K C) (C_due_sum : Cal P w K mg base k "due_sum" ["book", "handles", "many"] (spDueSum C)) (C_divides : Cal P w K mg base k "divides" ["part", "whole"] spDivides) (F : Fun K "sum_stands" "sum_stands" s_sum_stands f fd) :
    FnOk P w K mg base CX0 (k + 1) f fd ["book", "handles", "rims"] (spSumOk K C) := by
  refine F.ok sc_sum_stands (fun vs H Q E h => ?_) (fun cdv A outer s H vs Q E hr h => ?_)
  · obtain ⟨p, a, nn, mm, hh, rs, rfl, _⟩ := h
    rfl
  · obtain ⟨p, a, nn, mm, hh, rs, rfl, ⟨dx, hb⟩, hS, hn, hm, q⟩ := h
    refine ⟨_, (pss_one (ps_ret (pe_u C_divides hr (pa_cons (pe_fld (pv 0) rfl) (pa_cons (pe_op op_sub (pe_callB (cr_sumA rfl) (by rfl) T.b_sum boot_sum (pa_cons (pv 2) pa_nil)) (pe_u C_due_sum hr (pa_cons (pv 0) (pa_cons (pv 1) (pa_cons (pe_callB call_len_seq (by rfl) T.b_len PySem.boot_len (pa_cons (pv 2) pa_nil)) pa_nil))))) pa_nil))))), ?_⟩
    refine ⟨_, rfl, p, C, dx, _, _, rfl, hb, B.cl, B.nM, bf_modulus _ _, _, rfl, a, rs, rfl, hS, _, rfl, _, rfl, _, rfl, a, _, rfl, hS, p, nn, mm, hh, _, rfl, ⟨dx, hb⟩, hn, _, _, rfl, rfl, mm, _, rfl, hm, ?_⟩
    unfold sumOk at q
    rw [List.length_map]
    exact q
local macro_rules | `(tactic| walk_at "it") => `(tactic| repeat (first | refine iteT ?_ | refine iteF ?_))
theorem ifI {x y a b : Int} {R : VK} {H : Hp} (h : R (.int (if x = y then a else b)) H) : if decide (V.int x = V.int y) = true then R (.int a) H else R (.int b) H := by
  by_cases e : x = y
  · rw [if_pos e] at h
    rw [if_pos (by rw [e]; exact decide_eq_true rfl)]
    exact h
  · rw [if_neg e] at h
    rw [if_neg (by rw [decI]; simpa using e)]
    exact h
/-! ### measure_stands, share_stands -/
def spMeasOk (K : PySem.W.Frag) (C : Addr) : Sp := fun vs H Q _ => ∃ (p a : Addr) (nn mm m : Int) (rs : List Int), vs = [.ref p, .ref a, .int m] ∧ IsBook C H p nn mm ∧ SqA K H a (rs.map V.int) ∧ rs.length ≤ 1000 ∧ 0 ≤ m ∧ ∀ H', Same H H' → Q (.bl (measOk nn mm rs m)) H'
theorem ok_measure_stands {C : Addr} (T : Tx mg) (B : BookC K C) (C_divides : Cal P w K mg base k "divides" ["part", "whole"] spDivides) (F : Fun K "measure_stands" "measure_stands" s_measure_stands f fd) : FnOk P w K mg base CX0 (k + 1) f fd ["book", "rims", "measure"] (spMeasOk K C) := by
  refine F.ok sc_measure_stands (fun vs H Q E h => ?_) (fun cdv A outer s H vs Q E hr h => ?_)
  · obtain ⟨p, a, nn, mm, m, rs, rfl, _⟩ := h
    rfl
  · obtain ⟨p, a, nn, mm, m, rs, rfl, ⟨dx, hb⟩, hS, hl, hm, q⟩ := h
    refine ⟨_, (pss_cons (ps_if (PW.pt (pw_or (pt_cmpR op_lt (pv 2) (pe_ifExp (pt_cmpR op_eq (pe_fld (pv 0) rfl) pe_int (nomark _)) pe_int pe_int) (nomark _)) (pw_or1 (pt_not (pt_val (pe_u C_divides hr (pa_cons (pv 2) (pa_cons (pe_fld (pv 0) rfl) pa_nil)))))))) (pss_one (ps_ret pe_bl)) pss_nil)
    (pss_one (ps_ret (pe_callB (cr_all rfl) (by rfl) T.b_all (by decide +kernel) (pa_cons (pe_lc (own := [("rim", 3)]) (g := gName 3) rfl sc_measure_stands.nd (pi_seq (pv 1)) (blkOk_by (own := [("rim", 3)]) (N := N_measure_stands) (sc := defScope s_measure_stands) (by decide +kernel)) (fun _ _ _ _ _ => pg_name (i := 3) sc_measure_stands.nd rfl (.inl rfl)) (fun _ _ _ _ _ => pts_nil) (fun _ _ _ _ _ => (pe_u C_divides hr (pa_cons (pv 2) (pa_cons (pe_op op_add (pv 3) (pe_fdK (K := K) rfl (pv 0) rfl)) pa_nil))))) pa_nil))))), ?_⟩
    refine ⟨_, rfl, _, rfl, p, C, dx, _, _, rfl, hb, B.cl, B.nM, bf_modulus _ _, rfl, _, rfl, ?_⟩
    unfold measOk at q
    have q0 : ∀ H', Same H H' → ∀ b, b = (decide ((if mm = 0 then 0 else 1) ≤ m) && dvd' m mm && rs.all fun r => dvd' m (r + nn)) → Q (.bl b) H' := fun H' e b eb => by
      rw [eb]
      exact q H' e
    refine ite2 (fun e0 => ?_) (fun e0 => ?_)
    all_goals
      rw [decI, decide_eq_true_eq] at e0
      simp only [e0, if_true, if_false] at q0
      refine ⟨_, _, rfl, rfl, _, rfl, ?_⟩
      refine ite2 (fun e => ?_) (fun e => ?_)
      · have e' := of_decide_eq_true e
        walk_at "it"
        exact q0 H (Same.refl H) false (by rw [decide_eq_false (by omega)]; rfl)
      · rw [decide_eq_true_eq] at e
        refine ⟨_, rfl, _, rfl, p, C, dx, _, _, rfl, hb, B.cl, B.nM, bf_modulus _ _, m, mm, rfl, hm, _, rfl, ?_⟩
        cases ed : dvd' m mm with
        | false =>
          refine iteT ?_
          exact q0 H (Same.refl H) false (by first | (rw [ed]; simp; done) | (rw [e0] at ed; rw [ed]; simp))
        | true =>
          refine iteF ?_
          walk_at "red"
          refine tlc_pure (onI fun r => .bl (dvd' m (r + nn))) (fun R r => ⟨_, rfl, r⟩) hS (len1000 hl) (fun _ => rfl) (fun x hx H' e Q' q' => ?_) fun D hD => ?_
          · obtain ⟨r, _, rfl⟩ := List.mem_map.mp hx
            exact ⟨_, rfl, _, rfl, _, rfl, p, C, dx, _, _, rfl, e _ _ hb, B.cl, B.nA, bf_arms _ _, _, _, rfl, rfl, m, _, rfl, hm, q'⟩
          · rw [onI_map]
            refine ⟨D, rs.map fun r => dvd' m (r + nn), rfl, SqL.of (by rw [upd_same, List.map_map]; rfl), ?_⟩
            rw [all_map]
            exact q0 _ (Same.new hD) _ (by first | (rw [ed, decide_eq_true (by omega)]; simp; done) | (rw [e0] at ed; rw [ed, decide_eq_true (by omega)]; simp))
def spShareOk (K : PySem.W.Frag) (C : Addr) : Sp := fun vs H Q _ => ∃ (p a : Addr) (nn mm s : Int) (rs : List Int), vs = [.ref p, .ref a, .int s] ∧ IsBook C H p nn mm ∧ SqA K H a (rs.map V.int) ∧ rs.length ≤ 1000 ∧ ∀ H', Same H H' → Q (.bl (shareOk nn mm rs s)) H'
theorem ok_share_stands {C : Addr} (T : Tx mg) (B : BookC K C) (F : Fun K "share_stands" "share_stands" s_share_stands f fd) : FnOk P w K mg base CX0 (k + 1) f fd ["book", "rims", "share"] (spShareOk K C) := by
  refine F.ok sc_share_stands (fun vs H Q E h => ?_) (fun cdv A outer s H vs Q E hr h => ?_)
  · obtain ⟨p, a, nn, mm, m, rs, rfl, _⟩ := h
    rfl
  · obtain ⟨p, a, nn, mm, sh, rs, rfl, ⟨dx, hb⟩, hS, hl, q⟩ := h
    refine ⟨_, (pss_cons (ps_if (PW.pt (pw_or (pt_cmpR op_lt (pv 2) pe_int (nomark _)) (pw_or (pt_cmpR op_ne (pe_op op_modP (pe_fld (pv 0) rfl) (pv 2)) pe_int (nomark _)) (pw_or1 (pt_cmpR op_ne (pe_op op_modP (pe_fld (pv 0) rfl) (pv 2)) pe_int (nomark _)))))) (pss_one (ps_ret pe_bl)) pss_nil)
    (pss_one (ps_ret (pe_callB (cr_all rfl) (by rfl) T.b_all (by decide +kernel) (pa_cons (pe_lc (own := [("rim", 3)]) (g := gName 3) rfl sc_share_stands.nd (pi_seq (pv 1)) (blkOk_by (own := [("rim", 3)]) (N := N_share_stands) (sc := defScope s_share_stands) (by decide +kernel)) (fun _ _ _ _ _ => pg_name (i := 3) sc_share_stands.nd rfl (.inl rfl)) (fun _ _ _ _ _ => pts_nil) (fun _ _ _ _ _ => (pe_cmpR op_eq (pe_op op_modP (pv 3) (pv 2)) pe_int (nomark _)))) pa_nil))))), ?_⟩
    refine ⟨_, rfl, _, _, rfl, rfl, _, rfl, ?_⟩
    unfold shareOk at q
    refine ite2 (fun e => ?_) (fun e => ?_)
    · have e' := of_decide_eq_true e
      walk_at "it"
      rw [show decide (1 ≤ sh) = false from decide_eq_false (by omega)] at q
      exact q H (Same.refl H)
    · rw [decide_eq_true_eq] at e
      have hs : (0 : Int) < sh := by omega
      rw [show decide (1 ≤ sh) = true from decide_eq_true (by omega), Bool.true_and] at q
      refine ⟨_, rfl, p, C, dx, _, _, rfl, hb, B.cl, B.nA, bf_arms _ _, _, rfl, _, _, rfl, rfl, hs, rfl, _, rfl, ?_⟩
      rw [decI]
      cases ed : decide (nn % sh = 0) with
      | false =>
        rw [ed] at q
        refine iteT (iteT ?_)
        exact q H (Same.refl H)
      | true =>
        rw [ed, Bool.true_and] at q
        refine iteF ?_
        refine ⟨_, rfl, p, C, dx, _, _, rfl, hb, B.cl, B.nM, bf_modulus _ _, _, rfl, _, _, rfl, rfl, hs, rfl, _, rfl, ?_⟩
        rw [decI]
        cases ed : decide (mm % sh = 0) with
        | false =>
          rw [ed] at q
          refine iteT ?_
          exact q H (Same.refl H)
        | true =>
          rw [ed, Bool.true_and] at q
          refine iteF ?_
          walk_at "red"
          refine tlc_pure (onI fun r => .bl (decide (r % sh = 0))) (fun R r => ⟨_, rfl, r⟩) hS (len1000 hl) (fun _ => rfl) (fun x hx H' e Q' q' => ?_) fun D hD => ?_
          · obtain ⟨r, _, rfl⟩ := List.mem_map.mp hx
            refine ⟨_, rfl, _, rfl, _, _, rfl, rfl, hs, rfl, ?_⟩
            show Q' (.bl (decide (V.int _ = V.int _))) H'
            rw [decI]
            exact q'
          · rw [onI_map]
            refine ⟨D, rs.map fun r => decide (r % sh = 0), rfl, SqL.of (by rw [upd_same, List.map_map]; rfl), ?_⟩
            rw [all_map]
            exact q _ (Same.new hD)
/-! ### rims_stand -/
def incr (rs : List Int) : Bool := !((List.range (rs.length - 1)).any fun i => decide (rs.getD (i + 1) 0 < rs.getD i 0))
def rimsOk (mm : Int) (rs : List Int) : Bool := !rs.isEmpty && incr rs && (decide (mm = 0) || (decide (0 ≤ rs.getD 0 0) && decide (rs.getD (rs.length - 1) 0 < mm)))
theorem at_getD {rs : List Int} {i : Nat} (h : i < rs.length) : atI (rs.map V.int) (i : Int) = some (.int (rs.getD i 0)) := by
  refine atI_nat ?_
  rw [List.getElem?_map, List.getElem?_eq_getElem h, List.getD_eq_getElem?_getD, List.getElem?_eq_getElem h]
  rfl
theorem at_last {rs : List Int} (h : rs ≠ []) : atI (rs.map V.int) (-1) = some (.int (rs.getD (rs.length - 1) 0)) := by
  have hz : (rs.map V.int) = (rs.dropLast.map V.int) ++ [.int (rs.getLast h)] := by
    rw [← List.map_singleton, ← List.map_append, List.dropLast_concat_getLast]
  rw [hz, atI_last, List.getLast_eq_getElem, List.getD_eq_getElem?_getD, List.getElem?_eq_getElem (by
    cases rs with
    | nil => exact absurd rfl h
    | cons x r => simp)]
  rfl
def spRimsOk (K : PySem.W.Frag) (C : Addr) : Sp := fun vs H Q _ => ∃ (p a : Addr) (nn mm : Int) (rs : List Int), vs = [.ref p, .ref a] ∧ IsBook C H p nn mm ∧ SqA K H a (rs.map V.int) ∧ rs.length ≤ 1000 ∧ ∀ H', Same H H' → Q (.bl (rimsOk mm rs)) H'
theorem tru_seq {K : PySem.W.Frag} {H : Hp} {a : Addr} {xs : List V} (h : SqA K H a xs) : TruV K (.ref a) H (!xs.isEmpty) := by
  rcases h with h | h
  · exact .inl ⟨xs, h, rfl⟩
  · exact .inr (.inl ⟨xs, h, rfl⟩)
theorem ok_rims_stand {C : Addr} (T : Tx mg) (B : BookC K C) (F : Fun K "rims_stand" "rims_stand" s_rims_stand f fd) : FnOk P w K mg base CX0 (k + 1) f fd ["book", "rims"] (spRimsOk K C) := by
  refine F.ok sc_rims_stand (fun vs H Q E h => ?_) (fun cdv A outer s H vs Q E hr h => ?_)
  · obtain ⟨p, a, nn, mm, rs, rfl, _⟩ := h
    rfl
  · obtain ⟨p, a, nn, mm, rs, rfl, ⟨dx, hb⟩, hS, hl, q⟩ := h
    refine ⟨_, (pss_cons (ps_if (pt_not (pt_truth (pv 1) (by intro _; rfl))) (pss_one (ps_ret pe_bl)) pss_nil)
    (pss_cons (ps_if (pt_val (pe_callB (cr_any rfl) (by rfl) T.b_any (by decide +kernel) (pa_cons (pe_lc (own := [("at", 2)]) (g := gName 2) rfl sc_rims_stand.nd (pi_range1 rfl T.b_range (pa_cons (pe_op op_sub (pe_callB call_len_seq (by rfl) T.b_len PySem.boot_len (pa_cons (pv 1) pa_nil)) pe_int) pa_nil)) (blkOk_by (own := [("at", 2)]) (N := N_rims_stand) (sc := defScope s_rims_stand) (by decide +kernel)) (fun _ _ _ _ _ => pg_name (i := 2) sc_rims_stand.nd rfl (.inl rfl)) (fun _ _ _ _ _ => pts_nil) (fun _ _ _ _ _ => (pe_cmpR op_gt (pe_ix (ix_AK (K := K) rfl) (pv 1) (pv 2) (fun _ _ => rfl)) (pe_ix (ix_AK (K := K) rfl) (pv 1) (pe_op op_add (pv 2) pe_int) (fun _ _ => rfl)) (nomark _)))) pa_nil))) (pss_one (ps_ret pe_bl)) pss_nil)
    (pss_one (ps_ret (pe_or (pe_cmpR op_eq (pe_fld (pv 0) rfl) pe_int (nomark _)) (pe_one (pe_and (pe_cmpR op_ge (pe_ix ix_A (pv 1) pe_int (fun _ _ => rfl)) pe_int (nomark _)) (pe_one (pe_cmpR op_lt (pe_ix ix_A (pv 1) (pe_un un_neg pe_int) (fun _ _ => rfl)) (pe_fld (pv 0) rfl) (nomark _)))))))))), ?_⟩
    refine ⟨_, rfl, _, tru_seq hS, ?_⟩
    unfold rimsOk at q
    by_cases he : rs = []
    · subst he
      refine iteT ?_
      exact q H (Same.refl H)
    have e1 : rs.isEmpty = false := by
      cases rs with
      | nil => exact absurd rfl he
      | cons x r => rfl
    have hp : 0 < rs.length := by
      cases rs with
      | nil => exact absurd rfl he
      | cons x r => simp
    have e2 : (rs.map V.int).isEmpty = false := by
      rw [List.isEmpty_map]
      exact e1
    rw [e2]
    rw [e1] at q
    refine iteF ?_
    walk_at "red"
    refine tlc_range (n := (rs.length : Int) - 1) (fun i => .bl (decide (rs.getD (i.toNat + 1) 0 < rs.getD i.toNat 0))) (fun R r => ⟨_, rfl, a, _, rfl, hS, _, _, rfl, rfl, by rw [List.length_map]; exact r⟩) (by omega) (fun _ => rfl) (fun i hi H' e Q' q' => ?_) fun D hD => ?_
    · refine ⟨_, rfl, _, rfl, rix_A (sqA_same e hS) (at_getD (by omega)) ?_⟩
      refine ⟨_, rfl, _, rfl, _, _, rfl, rfl, rix_A (sqA_same e hS) (at_getD (i := i + 1) (by omega)) ?_⟩
      exact ⟨_, _, rfl, rfl, q'⟩
    · refine ⟨D, (List.range (rs.length - 1)).map fun i => decide (rs.getD (i + 1) 0 < rs.getD i 0), rfl, SqL.of ?_, _, rfl, ?_⟩
      · rw [upd_same, List.map_map]
        have en : ((rs.length : Int) - 1).toNat = rs.length - 1 := by omega
        rw [en]
        rfl
      · have e3 : ((List.range (rs.length - 1)).map fun i => decide (rs.getD (i + 1) 0 < rs.getD i 0)).any id = !incr rs := by
          unfold incr
          simp [List.any_map]
        rw [e3]
        have hS2 : SqA K (upd H D (.lst ((List.range ((rs.length : Int) - 1).toNat).map fun (i : Nat) => V.bl (decide (rs.getD ((i : Int).toNat + 1) 0 < rs.getD (i : Int).toNat 0))))) a (rs.map V.int) := sqA_same (Same.new hD) hS
        have hb2 := Same.new (o := .lst ((List.range ((rs.length : Int) - 1).toNat).map fun (i : Nat) => V.bl (decide (rs.getD ((i : Int).toNat + 1) 0 < rs.getD (i : Int).toNat 0)))) hD _ _ hb
        cases ei : incr rs with
        | false =>
          rw [ei] at q
          refine iteT ?_
          exact q _ (Same.new hD)
        | true =>
          rw [ei] at q
          refine iteF ?_
          refine ⟨_, rfl, p, C, dx, _, _, rfl, hb2, B.cl, B.nM, bf_modulus _ _, rfl, _, rfl, ?_⟩
          rw [decI]
          cases em : decide (mm = 0) with
          | true =>
            rw [em] at q
            refine iteT ?_
            exact q _ (Same.new hD)
          | false =>
            rw [em] at q
            refine iteF ?_
            refine ⟨_, rfl, rix_A hS2 (at_getD hp) ?_⟩
            refine ⟨_, _, rfl, rfl, _, rfl, ?_⟩
            cases e0 : decide (0 ≤ rs.getD 0 0) with
            | false =>
              rw [e0] at q
              refine iteF ?_
              exact q _ (Same.new hD)
            | true =>
              rw [e0] at q
              refine iteT ?_
              refine ⟨_, rfl, _, rfl, rix_A hS2 (at_last he) ?_⟩
              exact ⟨_, rfl, p, C, dx, _, _, rfl, hb2, B.cl, B.nM, bf_modulus _ _, _, _, rfl, rfl, q _ (Same.new hD)⟩
end
end C53
set_option Elab.async false
set_option linter.all false
set_option maxRecDepth 100000
set_option maxHeartbeats 1000000
namespace C53
open PySem PySem.Spec PyProof.Rows L2 Ex
local macro_rules | `(tactic| walk_at "rd") => `(tactic| repeat (first | refine ⟨_, rfl, ?_⟩ | refine ⟨_, _, rfl, rfl, ?_⟩ | refine ⟨rfl, ?_⟩))
local macro_rules | `(tactic| walk_at "red") => `(tactic| dsimp only [tNext, tSeq, tIfS, tB, tCB, tCons, tNil, tRet, tAsg, tTest])
local macro_rules | `(tactic| walk_at "it") => `(tactic| repeat (first | refine iteT ?_ | refine iteF ?_))
abbrev s_Book_init : Stmt := inClass (topS 12) 0
abbrev N_Book_init : List Str := ["self", "arms", "modulus"]
theorem sc_Book_init : FnScope N_Book_init ["self", "arms", "modulus"] (defScope s_Book_init) := ⟨rfl, rfl, rfl, by decide +kernel, rfl, by decide +kernel, by decide +kernel⟩
abbrev s_reduced : Stmt := topS 13
abbrev N_reduced : List Str := ["book", "n"]
theorem sc_reduced : FnScope N_reduced ["book", "n"] (defScope s_reduced) := ⟨rfl, rfl, rfl, by decide +kernel, rfl, by decide +kernel, by decide +kernel⟩
abbrev s_divisor : Stmt := topS 14
abbrev N_divisor : List Str := ["numbers", "found", "number"]
theorem sc_divisor : FnScope N_divisor ["numbers"] (defScope s_divisor) := ⟨rfl, rfl, rfl, by decide +kernel, rfl, by decide +kernel, by decide +kernel⟩
abbrev s_ill_formed : Stmt := topS 43
abbrev N_ill_formed : List Str := ["handles", "measure", "share", "balance"]
theorem sc_ill_formed : FnScope N_ill_formed ["handles", "measure", "share", "balance"] (defScope s_ill_formed) := ⟨rfl, rfl, rfl, by decide +kernel, rfl, by decide +kernel, by decide +kernel⟩
abbrev s_Kind_init : Stmt := inClass (topS 44) 0
abbrev N_Kind_init : List Str := ["self", "book", "handles", "rims", "measure", "share", "balance", "why", "broken"]
theorem sc_Kind_init : FnScope N_Kind_init ["self", "book", "handles", "rims", "measure", "share", "balance"] (defScope s_Kind_init) := ⟨rfl, rfl, rfl, by decide +kernel, rfl, by decide +kernel, by decide +kernel⟩
def optV : Option Int → V
  | none => .non
  | some i => .int i
def balOk (nn mm : Int) (rs : List Int) (s : Int) (ob : Option Int) : Bool := if hasBal nn mm s = true then (match ob with | none => false | some b => decide (decide (b = 0) = oddRim nn rs s)) else ob.isNone
section
variable {P : Program} {w : World} {K : PySem.W.Frag} {mg : Str → Option Value} {base : Heap} {k : Nat} {f : Addr} {fd : FuncData}
/-! ### balance_stands, broken_count -/
def spBalOk (K : PySem.W.Frag) (C : Addr) : Sp := fun vs H Q _ => ∃ (p a : Addr) (nn mm s : Int) (rs : List Int) (ob : Option Int), vs = [.ref p, .ref a, .int s, optV ob] ∧ IsBook C H p nn mm ∧ SqA K H a (rs.map V.int) ∧ rs.length ≤ 1000 ∧ (0 < s ∧ s < 1073741824) ∧ ∀ H', Same H H' → Q (.bl (balOk nn mm rs s ob)) H'
theorem ok_balance_stands {C : Addr} (C_has_balance : Cal P w K mg base k "has_balance" ["book", "share"] (spHasBal C)) (C_some_odd_rim : Cal P w K mg base k "some_odd_rim" ["book", "rims", "share"] (spOddRim K C)) (F : Fun K "balance_stands" "balance_stands" s_balance_stands f fd) :
    FnOk P w K mg base CX0 (k + 1) f fd ["book", "rims", "share", "balance"] (spBalOk K C) := by
  refine F.ok sc_balance_stands (fun vs H Q E h => ?_) (fun cdv A outer s H vs Q E hr h => ?_)
  · obtain ⟨p, a, nn, mm, s, rs, ob, rfl, _⟩ := h
    rfl
  · obtain ⟨p, a, nn, mm, sh, rs, ob, rfl, hb, hS, hl, hs, q⟩ := h
    refine ⟨_, (pss_cons (ps_if (pt_not (pt_val (pe_u C_has_balance hr (pa_cons (pv 0) (pa_cons (pv 2) pa_nil))))) (pss_one (ps_ret (pe_cmpR op_isN (pv 3) pe_non (nomark _)))) pss_nil)
    (pss_cons (ps_if (pt_cmpR op_isN (pv 3) pe_non (nomark _)) (pss_one (ps_ret pe_bl)) pss_nil)
    (pss_one (ps_ret (pe_cmpR op_eq (pe_cmpR op_eq (pv 3) pe_int (nomark _)) (pe_u C_some_odd_rim hr (pa_cons (pv 0) (pa_cons (pv 1) (pa_cons (pv 2) pa_nil)))) (nomark _)))))), ?_⟩
    refine ⟨_, rfl, _, rfl, p, nn, mm, sh, rfl, hb, hs, _, rfl, ?_⟩
    unfold balOk at q
    cases eb : hasBal nn mm sh with
    | false =>
      rw [eb] at q
      refine iteT ?_
      refine ⟨_, rfl, rfl, ?_⟩
      have q2 := q H (Same.refl H)
      cases ob with
      | none => exact q2
      | some b => exact q2
    | true =>
      rw [eb] at q
      refine iteF ?_
      cases ob with
      | none =>
        refine ⟨_, rfl, rfl, _, rfl, iteT ?_⟩
        exact q H (Same.refl H)
      | some b =>
        refine ⟨_, rfl, rfl, _, rfl, iteF ?_⟩
        refine ⟨_, rfl, rfl, _, rfl, _, rfl, _, rfl, p, a, nn, mm, sh, rs, rfl, hb, hS, hl, hs, fun H' e => ⟨rfl, ?_⟩⟩
        have q2 := q H' e
        show Q (.bl (decide (V.bl (decide (V.int b = V.int 0)) = V.bl (oddRim nn rs sh)))) H'
        rw [decI]
        rw [show decide (V.bl (decide (b = 0)) = V.bl (oddRim nn rs sh)) = decide (decide (b = 0) = oddRim nn rs sh) by simp]
        exact q2
/-- counts that break nothing -/
structure KOk (nn mm h : Int) (rs : List Int) (m s b : Option Int) : Prop where
  rims : rimsOk mm rs = true
  sum : sumOk nn mm h rs = true
  m1 : h = 1 → ∃ i, m = some i ∧ 0 ≤ i ∧ measOk nn mm rs i = true
  m0 : h ≠ 1 → m = none
  s2 : 2 ≤ h → ∃ i, s = some i ∧ (0 < i ∧ i < 1073741824) ∧ shareOk nn mm rs i = true ∧ balOk nn mm rs i b = true ∧ (b = none ∨ b = some 1 ∨ b = some 0 ∨ b = some (-1))
  s0 : h < 2 → s = none ∧ b = none
  h0 : 0 ≤ h
def spBroken (K : PySem.W.Frag) (C : Addr) : Sp := fun vs H Q _ => ∃ (p a : Addr) (nn mm h : Int) (rs : List Int) (m s b : Option Int), vs = [.ref p, .int h, .ref a, optV m, optV s, optV b] ∧ IsBook C H p nn mm ∧ SqA K H a (rs.map V.int) ∧ rs.length ≤ 1000 ∧ (-1000 < nn ∧ nn < 1000) ∧ 0 ≤ mm ∧ KOk nn mm h rs m s b ∧ ∀ H', Same H H' → Q .non H'
theorem ok_broken_count {C : Addr} (C_rims_stand : Cal P w K mg base k "rims_stand" ["book", "rims"] (spRimsOk K C)) (C_sum_stands : Cal P w K mg base k "sum_stands" ["book", "handles", "rims"] (spSumOk K C)) (C_measure_stands : Cal P w K mg base k "measure_stands" ["book", "rims", "measure"] (spMeasOk K C))
    (C_share_stands : Cal P w K mg base k "share_stands" ["book", "rims", "share"] (spShareOk K C)) (C_balance_stands : Cal P w K mg base k "balance_stands" ["book", "rims", "share", "balance"] (spBalOk K C)) (F : Fun K "broken_count" "broken_count" s_broken_count f fd) :
    FnOk P w K mg base CX0 (k + 1) f fd ["book", "handles", "rims", "measure", "share", "balance"] (spBroken K C) := by
  refine F.ok sc_broken_count (fun vs H Q E h => ?_) (fun cdv A outer s H vs Q E hr h => ?_)
  · obtain ⟨p, a, nn, mm, hh, rs, m, sh, b, rfl, _⟩ := h
    rfl
  · obtain ⟨p, a, nn, mm, hh, rs, m, sh, b, rfl, hb, hS, hl, hn, hm, ok, q⟩ := h
    refine ⟨_, (pss_cons (ps_if (pt_not (pt_val (pe_u C_rims_stand hr (pa_cons (pv 0) (pa_cons (pv 2) pa_nil))))) (pss_one (ps_ret pe_str)) pss_nil)
    (pss_cons (ps_if (pt_not (pt_val (pe_u C_sum_stands hr (pa_cons (pv 0) (pa_cons (pv 1) (pa_cons (pv 2) pa_nil)))))) (pss_one (ps_ret pe_str)) pss_nil)
    (pss_cons (ps_if (PW.pt (pw_and (pt_cmpR op_eq (pv 1) pe_int (nomark _)) (pw_and1 (pt_not (pt_val (pe_u C_measure_stands hr (pa_cons (pv 0) (pa_cons (pv 2) (pa_cons (pv 3) pa_nil))))))))) (pss_one (ps_ret pe_str)) pss_nil)
    (pss_cons (ps_if (PW.pt (pw_and (pt_cmpR op_ge (pv 1) pe_int (nomark _)) (pw_and1 (pt_not (pt_val (pe_u C_share_stands hr (pa_cons (pv 0) (pa_cons (pv 2) (pa_cons (pv 4) pa_nil))))))))) (pss_one (ps_ret pe_str)) pss_nil)
    (pss_cons (ps_if (PW.pt (pw_and (pt_cmpR op_ge (pv 1) pe_int (nomark _)) (pw_and1 (pt_not (pt_val (pe_u C_balance_stands hr (pa_cons (pv 0) (pa_cons (pv 2) (pa_cons (pv 4) (pa_cons (pv 5) pa_nil)))))))))) (pss_one (ps_ret pe_str)) pss_nil)
    (pss_one (ps_ret pe_non))))))), ?_⟩
    refine ⟨_, rfl, _, rfl, p, a, nn, mm, rs, rfl, hb, hS, hl, fun H1 e1 => ⟨_, rfl, ?_⟩⟩
    rw [ok.rims]
    refine iteF ?_
    refine ⟨_, rfl, _, rfl, _, rfl, p, a, nn, mm, hh, rs, rfl, hb.same e1, sqA_same e1 hS, hn, hm, _, rfl, ?_⟩
    rw [ok.sum]
    refine iteF ?_
    refine ⟨_, rfl, rfl, _, rfl, ?_⟩
    rw [decI]
    by_cases h1 : hh = 1
    · obtain ⟨i, rfl, hi, km⟩ := ok.m1 h1
      obtain ⟨rfl, rfl⟩ := ok.s0 (by omega)
      rw [decide_eq_true h1]
      refine iteT ?_
      refine ⟨_, rfl, _, rfl, _, rfl, p, a, nn, mm, i, rs, rfl, hb.same e1, sqA_same e1 hS, hl, hi, fun H2 e2 => ⟨_, rfl, ?_⟩⟩
      rw [km]
      refine iteF ?_
      refine ⟨_, rfl, _, _, rfl, rfl, _, rfl, ?_⟩
      rw [decide_eq_false (by omega)]
      walk_at "it"
      refine ⟨_, rfl, _, _, rfl, rfl, _, rfl, ?_⟩
      rw [decide_eq_false (by omega)]
      walk_at "it"
      exact q H2 (e1.trans e2)
    · rw [decide_eq_false h1]
      walk_at "it"
      refine ⟨_, rfl, _, _, rfl, rfl, _, rfl, ?_⟩
      by_cases h2 : 2 ≤ hh
      · obtain ⟨i, rfl, hi, ks, kb, _⟩ := ok.s2 h2
        rw [decide_eq_true h2]
        refine iteT ?_
        refine ⟨_, rfl, _, rfl, _, rfl, p, a, nn, mm, i, rs, rfl, hb.same e1, sqA_same e1 hS, hl, fun H2 e2 => ⟨_, rfl, ?_⟩⟩
        rw [ks]
        refine iteF ?_
        refine ⟨_, rfl, _, _, rfl, rfl, _, rfl, ?_⟩
        rw [decide_eq_true h2]
        refine iteT ?_
        refine ⟨_, rfl, _, rfl, _, rfl, _, rfl, p, a, nn, mm, i, rs, b, rfl, hb.same (e1.trans e2), sqA_same (e1.trans e2) hS, hl, hi, fun H3 e3 => ⟨_, rfl, ?_⟩⟩
        rw [kb]
        refine iteF ?_
        exact q H3 ((e1.trans e2).trans e3)
      · rw [decide_eq_false h2]
        walk_at "it"
        refine ⟨_, rfl, _, _, rfl, rfl, _, rfl, ?_⟩
        rw [decide_eq_false h2]
        walk_at "it"
        exact q H1 e1
/-! ### is_number, Book, reduced -/
def spIsNumber : Sp := fun vs H Q _ => ∃ i : Int, vs = [.int i] ∧ Q (.bl true) H
theorem ok_is_number (T : Tx mg) (F : Fun K "is_number" "is_number" s_is_number f fd) : FnOk P w K mg base CX0 (k + 1) f fd ["value"] spIsNumber := by
  refine F.ok sc_is_number (fun vs H Q E h => ?_) (fun cdv A outer s H vs Q E hr h => ?_)
  · obtain ⟨i, rfl, _⟩ := h
    rfl
  · obtain ⟨i, rfl, q⟩ := h
    refine ⟨_, (pss_one (ps_ret (pe_and (pe_callB call_isi (by rfl) T.b_isinstance (by decide +kernel) (pa_cons (pv 0) (pa_cons (pe_bltn (v := .ty "int") (u := .type "int") (by rfl) T.b_int (by decide +kernel) rfl) pa_nil))) (pe_one (pe_not (pe_callB call_isi (by rfl) T.b_isinstance (by decide +kernel) (pa_cons (pv 0) (pa_cons (pe_bltn (v := .ty "bool") (u := .type "bool") (by rfl) T.b_bool (by decide +kernel) rfl) pa_nil)))))))), ?_⟩
    refine ⟨_, rfl, _, .ty "int", _, _, true, rfl, .ty _, .base (.int i), kit_ty (by decide +kernel), _, rfl, iteT ?_⟩
    exact ⟨_, rfl, _, .ty "bool", _, _, false, rfl, .ty _, .base (.int i), kit_ty (by decide +kernel), _, rfl, q⟩
theorem bf_put (nn mm : Int) : putF "modulus" (.int mm) (putF "arms" (.int nn) []) = bf nn mm := by with_unfolding_all rfl
def spBookInit (C : Addr) : Sp := fun vs H Q _ => ∃ (p dx : Addr) (nn mm : Int), vs = [.ref p, .int nn, .int mm] ∧ H p = some (.ins C dx []) ∧ (1 ≤ nn ∧ nn ≤ 12) ∧ (mm = 0 ∨ (2 ≤ mm ∧ mm ≤ 24)) ∧ Q .non (upd H p (.ins C dx (bf nn mm)))
theorem ok_book_init {C : Addr} (T : Tx mg) (B : BookC K C) (C_is_number : Cal P w K mg base k "is_number" ["value"] spIsNumber) (F : FunD K "__init__" "Book.__init__" (defArgs s_Book_init) (defBody s_Book_init) (defScope s_Book_init) [.int 0] [] f fd) : FnOk P w K mg base CX0 (k + 1) f fd ["self", "arms", "modulus"] (spBookInit C) := by
  obtain ⟨t1, gA⟩ := T.g_MOST_ARMS
  obtain ⟨t2, gM⟩ := T.g_MOST_MODULUS
  refine F.ok sc_Book_init (fun vs H Q E h => ?_) (fun cdv A outer s H vs Q E hr h => ?_)
  · obtain ⟨p, dx, nn, mm, rfl, _⟩ := h
    rfl
  · obtain ⟨p, dx, nn, mm, rfl, hp, hn, hm, q⟩ := h
    refine ⟨_, PSs.nox (pss_cons (ps_if (PW.pt (pw_or (pt_not (pt_val (pe_u C_is_number hr (pa_cons (pv 1) pa_nil)))) (pw_or1 (pt_cmpR op_lt (pv 1) pe_int (nomark _))))) (pss_one ps_never) pss_nil)
    (pss_cons (ps_if (PW.pt (pw_or (pt_not (pt_val (pe_u C_is_number hr (pa_cons (pv 2) pa_nil)))) (pw_or (pt_cmpR op_lt (pv 2) pe_int (nomark _)) (pw_or1 (pt_cmpR op_eq (pv 2) pe_int (nomark _)))))) (pss_one ps_never) pss_nil)
    (pss_cons (ps_if (pt_cmpR op_gt (pv 1) (pe_glob rfl gA (v := .int 12) ⟨_, rfl⟩) (nomark _)) (pss_one ps_never) pss_nil)
    (pss_cons (ps_if (pt_cmpR op_gt (pv 2) (pe_glob rfl gM (v := .int 24) ⟨_, rfl⟩) (nomark _)) (pss_one ps_never) pss_nil)
    (pss_cons (ps_fld (pv 0) (pv 1) rfl)
    (pss_one (ps_fld (pv 0) (pv 2) rfl))))))), ?_⟩
    refine ⟨_, rfl, nn, rfl, _, rfl, iteF ?_⟩
    refine ⟨_, rfl, _, _, rfl, rfl, _, rfl, ?_⟩
    rw [decide_eq_false (by omega)]
    refine iteF ?_
    refine ⟨_, rfl, mm, rfl, _, rfl, iteF ?_⟩
    refine ⟨_, rfl, _, _, rfl, rfl, _, rfl, ?_⟩
    rw [decide_eq_false (by omega)]
    refine iteF ?_
    refine ⟨_, rfl, rfl, _, rfl, ?_⟩
    rw [decI, decide_eq_false (by omega)]
    refine iteF ?_
    refine ⟨_, rfl, _, _, rfl, rfl, _, rfl, ?_⟩
    rw [decide_eq_false (by omega)]
    refine iteF ?_
    refine ⟨_, rfl, _, _, rfl, rfl, _, rfl, ?_⟩
    rw [decide_eq_false (by omega)]
    refine iteF ?_
    refine ⟨_, rfl, _, rfl, p, C, dx, [], rfl, hp, B.cl, B.nA, (by show 0 < 1000; decide), ?_⟩
    refine ⟨_, rfl, _, rfl, p, C, dx, _, rfl, upd_same, B.cl, B.nM, (by show 1 < 1000; decide), ?_⟩
    rw [upd_upd, bf_put]
    exact q
def red' (mm n : Int) : Int := if mm = 0 then n else n % mm
def spReduced (C : Addr) : Sp := fun vs H Q _ => ∃ (p : Addr) (nn mm n : Int), vs = [.ref p, .int n] ∧ IsBook C H p nn mm ∧ 0 ≤ mm ∧ Q (.int (red' mm n)) H
theorem ok_reduced {C : Addr} (B : BookC K C) (F : Fun K "reduced" "reduced" s_reduced f fd) : FnOk P w K mg base CX0 (k + 1) f fd ["book", "n"] (spReduced C) := by
  refine F.ok sc_reduced (fun vs H Q E h => ?_) (fun cdv A outer s H vs Q E hr h => ?_)
  · obtain ⟨p, nn, mm, n, rfl, _⟩ := h
    rfl
  · obtain ⟨p, nn, mm, n, rfl, ⟨dx, hb⟩, hm, q⟩ := h
    refine ⟨_, (pss_cons (ps_if (pt_cmpR op_eq (pe_fld (pv 0) rfl) pe_int (nomark _)) (pss_one (ps_ret (pv 1))) pss_nil)
    (pss_one (ps_ret (pe_op op_modP (pv 1) (pe_fld (pv 0) rfl))))), ?_⟩
    refine ⟨_, rfl, p, C, dx, _, _, rfl, hb, B.cl, B.nM, bf_modulus _ _, rfl, _, rfl, ?_⟩
    rw [decI]
    unfold red' at q
    by_cases e : mm = 0
    · rw [if_pos e] at q
      rw [decide_eq_true e]
      exact iteT ⟨_, rfl, q⟩
    · rw [if_neg e] at q
      rw [decide_eq_false e]
      exact iteF ⟨_, rfl, _, rfl, p, C, dx, _, _, rfl, hb, B.cl, B.nM, bf_modulus _ _, _, _, rfl, rfl, (show (0 : Int) < mm by omega), q⟩
end
end C53
set_option Elab.async false
set_option linter.all false
set_option maxRecDepth 100000
set_option maxHeartbeats 1000000
namespace C53
open PySem PySem.Spec PyProof.Rows L2 Ex
local macro_rules | `(tactic| walk_at "rd") => `(tactic| repeat (first | refine ⟨_, rfl, ?_⟩ | refine ⟨_, _, rfl, rfl, ?_⟩ | refine ⟨rfl, ?_⟩))
local macro_rules | `(tactic| walk_at "red") => `(tactic| dsimp only [tNext, tSeq, tIfS, tB, tCB, tCons, tNil, tRet, tAsg, tTest])
local macro_rules | `(tactic| walk_at "it") => `(tactic| repeat (first | refine iteT ?_ | refine iteF ?_))
theorem for_A {K : PySem.W.Frag} {a : Addr} {xs : List V} {g : TG} {tb : TS} {D : Ends} {σ : L2.St} {H : Hp} {tl : TE} (Pv : Nat → L2.St → Hp → Prop) (hl : ∀ R : VK, R (.ref a) H → tl σ H R) (src : SqA K H a xs) (h0 : Pv 0 σ H) (hk : ∀ i σ' H', Pv i σ' H' → ∀ x, H a = some x → H' a = some x)
    (hs : ∀ i x σ H, xs[i]? = some x → Pv i σ H → g x σ H fun σ2 H2 => tb { D with nx := Pv (i + 1), ct := Pv (i + 1), bk := D.nx } σ2 H2) (hd : ∀ σ H, Pv xs.length σ H → D.nx σ H) : tFor (iSeq K tl) g tb D σ H := by
  refine hl _ ⟨a, rfl, ?_⟩
  rcases src with src | src
  · refine .inl ⟨⟨xs, src⟩, for_list Pv h0 (fun i σ' H' _ p => ?_) hs hd⟩
    rcases src with h | h
    · rcases h with h | ⟨o, h⟩
      · exact .inl (.inl (hk i σ' H' p _ h))
      · exact .inl (.inr ⟨o, hk i σ' H' p _ h⟩)
    · exact .inr h
  · refine .inr ⟨⟨xs, src⟩, for_tup Pv h0 (fun i σ' H' _ p => ?_) hs hd⟩
    rcases src with h | h
    · rcases h with h | ⟨o, h⟩
      · exact .inl (.inl (hk i σ' H' p _ h))
      · exact .inl (.inr ⟨o, hk i σ' H' p _ h⟩)
    · exact .inr h
/-! ### divisor -/
def gcdI (a b : Int) : Int := ((Nat.gcd a.natAbs b.natAbs : Nat) : Int)
def gcdL (zs : List Int) : Int := zs.foldl gcdI 0
/-- a def known by its promise of positional values -/
structure CalR (P : Program) (w : World) (K : PySem.W.Frag) (mg : Str → Option Value) (base : Heap) (k : Nat) (x : Str) (sp : Sp) : Prop where
  ex : ∃ f, mg x = some (.ref f) ∧ PySem.W.keepIn K (.ref f) = true ∧ FnR P w K mg base CX0 k f sp
theorem pe_s {X : Cx} {k : Nat} {x : Str} {p pos : Pos} {sp : Sp} {e : Expr} {es : List Expr} {t : TA} (C : CalR X.prog X.w X.K X.mg X.base k x sp) (hr : Room k X.A) (ha : PA X (e :: es) t) (hg : Gl X x := by rfl) (hd : (x == ("__debug__" : Str)) = false := by decide)
    (he : starEach (e :: es) X.env = (false, eval e X.env) :: starEach es X.env := by rfl) (hst : (backTo pos (starEach es X.env)).any (·.1) = true := by rfl) :
    PE X (.Call (.Name x p) (e :: es) [] pos) (fun σ H Q => t σ H fun vs H1 => sp vs H1 Q E0) := by
  obtain ⟨f, g, kp, F⟩ := C.ex
  exact StX.pe_callS2 F hr kp hg g pass0 ha hd he hst
def spDivisor : Sp := fun vs H Q _ => ∃ zs : List Int, vs = zs.map V.int ∧ zs.length ≤ 1000 ∧ ∀ H', Same H H' → Q (.int (gcdL zs)) H'
section
variable {P : Program} {w : World} {K : PySem.W.Frag} {mg : Str → Option Value} {base : Heap} {k : Nat} {f : Addr} {fd : FuncData}
theorem take_succ_foldl {zs : List Int} {i : Nat} {z : Int} (h : zs[i]? = some z) : gcdL (zs.take (i + 1)) = gcdI (gcdL (zs.take i)) z := by
  unfold gcdL
  rw [List.take_add_one, h, List.foldl_append]
  rfl
theorem ok_divisor (T : Tx mg) (F : Fun K "divisor" "divisor" s_divisor f fd) : FnR P w K mg base CX0 (k + 1) f spDivisor := by
  obtain ⟨oc, od, kV, doc, pm, an, cdv, ct, osl, rfl, lk, hcd⟩ := F.ex
  refine FnR.imp (StX.fn_star (ps := []) (sp := fun vs H Q _ => ∃ (a : Addr) (zs : List Int), vs = [.ref a] ∧ H a = some (.tup (zs.map V.int)) ∧ zs.length ≤ 1000 ∧ Q (.int (gcdL zs)) H) lk hcd sc_divisor StX.cxUp_none (fun us rest hl => ?_) (fun A outer s H vs Q E hr h => ?_)) (fun vs H Q E h => ?_)
  · obtain rfl : us = [] := List.length_eq_zero_iff.mp hl
    cases rest with
    | nil => rfl
    | cons r rs => rfl
  · obtain ⟨a, zs, rfl, ha, hl, q⟩ := h
    refine ⟨_, PSs.nox (pss_cons (ps_set (i := 1) sc_divisor.nd rfl (.inl rfl) pe_int)
    (pss_cons (ps_for PassesOwn.never rfl (pi_seq (pv 0)) (pg_name (i := 2) sc_divisor.nd rfl (.inl rfl))
      (pss_one (ps_set (i := 1) sc_divisor.nd rfl (.inl rfl) (pe_callBfun cr_gcd (by rfl) T.gcd (pa_cons (pv 1) (pa_cons (pv 2) pa_nil))))))
    (pss_one (ps_ret (pv 1))))), ?_⟩
    walk_at "red"
    refine for_A (xs := zs.map V.int) (fun i σ H' => H' = H ∧ σ[0]? = some (some (V.ref a)) ∧ σ.length = 3 ∧ σ[1]? = some (some (V.int (gcdL (zs.take i))))) ?_ (sqA_t ha) ?_ (fun i σ' H' p x e => by rw [p.1]; exact e) (fun i x σ H' hx p => ?_) (fun σ H' p => ?_)
    · exact fun R r => ⟨_, rfl, r⟩
    · exact ⟨rfl, rfl, rfl, rfl⟩
    · obtain ⟨rfl, p0, pl, p1⟩ := p
      rw [List.getElem?_map] at hx
      obtain ⟨z, hz, rfl⟩ := Option.map_eq_some_iff.mp hx
      match σ, pl, p0, p1 with
      | [σ0, σ1, σ2], _, p0, p1 =>
        obtain rfl : σ0 = some (V.ref a) := Option.some.inj p0
        obtain rfl : σ1 = some (V.int (gcdL (zs.take i))) := Option.some.inj p1
        refine ⟨_, rfl, _, rfl, _, _, rfl, ?_⟩
        refine ⟨rfl, rfl, rfl, ?_⟩
        rw [take_succ_foldl hz]
        rfl
    · obtain ⟨rfl, p0, pl, p1⟩ := p
      rw [List.length_map, List.take_length] at p1
      exact ⟨_, p1, q⟩
  · obtain ⟨zs, rfl, hl, q⟩ := h
    refine ⟨[], zs.map V.int, rfl, rfl, ?_, fun p hp => ⟨p, zs, rfl, upd_same, hl, q _ (Same.new hp)⟩⟩
    rw [List.length_map]
    exact Nat.le_of_lt (small1000 hl)
/-! ### ill_formed -/
structure IllOk (h : Int) (m s b : Option Int) : Prop where
  h0 : 0 ≤ h
  m : m = none ↔ h ≠ 1
  s : s = none ↔ ¬ 2 ≤ h
  b : b = none ∨ 2 ≤ h ∧ (b = some 1 ∨ b = some 0 ∨ b = some (-1))
def spIll : Sp := fun vs H Q _ => ∃ (h : Int) (m s b : Option Int), vs = [.int h, optV m, optV s, optV b] ∧ IllOk h m s b ∧ ∀ H', Same H H' → Q .non H'
theorem optN (o : Option Int) : decide (optV o = .non) = o.isNone := by cases o <;> simp [optV]
theorem ok_ill_formed (T : Tx mg) (F : Fun K "ill_formed" "ill_formed" s_ill_formed f fd) : FnOk P w K mg base CX0 (k + 1) f fd ["handles", "measure", "share", "balance"] spIll := by
  refine F.ok sc_ill_formed (fun vs H Q E h => ?_) (fun cdv A outer s H vs Q E hr h => ?_)
  · obtain ⟨_, _, _, _, rfl, _⟩ := h
    rfl
  · obtain ⟨hh, m, sh, b, rfl, ok, q⟩ := h
    refine ⟨_, (pss_cons (ps_if (pt_cmpR op_lt (pv 0) pe_int (nomark _)) (pss_one (ps_ret pe_str)) pss_nil)
    (pss_cons (ps_if (pt_cmpR op_eq (pe_cmpR op_isN (pv 1) pe_non (nomark _)) (pe_cmpR op_eq (pv 0) pe_int (nomark _)) (nomark _)) (pss_one (ps_ret pe_str)) pss_nil)
    (pss_cons (ps_if (pt_cmpR op_eq (pe_cmpR op_isN (pv 2) pe_non (nomark _)) (pe_cmpR op_ge (pv 0) pe_int (nomark _)) (nomark _)) (pss_one (ps_ret pe_str)) pss_nil)
    (pss_cons (ps_if (pt_cmpR op_isN (pv 3) pe_non (nomark _)) (pss_one (ps_ret pe_non)) pss_nil)
    (pss_cons (ps_if (pt_cmpR op_lt (pv 0) pe_int (nomark _)) (pss_one (ps_ret pe_str)) pss_nil)
    (pss_cons (ps_if (PW.pt (pw_or (pt_val (pe_callB call_isi (by rfl) T.b_isinstance (by decide +kernel) (pa_cons (pv 3) (pa_cons (pe_bltn (v := .ty "bool") (u := .type "bool") (by rfl) T.b_bool (by decide +kernel) rfl) pa_nil)))) (pw_or1 (pt_cmpR op_notIn_seq (pv 3) (pe_tup (pa_cons pe_int (pa_cons pe_int (pa_cons (pe_un un_neg pe_int) pa_nil)))) (by rfl))))) (pss_one (ps_ret pe_str)) pss_nil)
    (pss_one (ps_ret pe_non)))))))), ?_⟩
    refine ⟨_, rfl, _, _, rfl, rfl, _, rfl, ?_⟩
    rw [decide_eq_false (by have := ok.h0; omega)]
    refine iteF ?_
    refine ⟨_, rfl, rfl, _, rfl, rfl, rfl, _, rfl, ?_⟩
    rw [optN, decI]
    have e1 : (m.isNone == decide (hh = 1)) = false := by
      have := ok.m
      cases m with
      | none => simp at this; simp [this]
      | some i => simp at this; simp [this]
    rw [show decide (V.bl m.isNone = V.bl (decide (hh = 1))) = false by rw [dec_bl]; exact e1]
    refine iteF ?_
    refine ⟨_, rfl, rfl, _, rfl, _, _, rfl, rfl, rfl, _, rfl, ?_⟩
    rw [optN]
    have e2 : (sh.isNone == decide (2 ≤ hh)) = false := by
      have := ok.s
      cases sh with
      | none => simp at this; simp [this]
      | some i => simp at this; simp [this]
    rw [show decide (V.bl sh.isNone = V.bl (decide (2 ≤ hh))) = false by rw [dec_bl]; exact e2]
    refine iteF ?_
    refine ⟨_, rfl, rfl, _, rfl, ?_⟩
    rw [optN]
    rcases ok.b with rfl | ⟨h2, hb⟩
    · exact iteT (q H (Same.refl H))
    · have hb' : ∃ i, b = some i ∧ (i = 1 ∨ i = 0 ∨ i = -1) := by
        rcases hb with rfl | rfl | rfl
        · exact ⟨1, rfl, .inl rfl⟩
        · exact ⟨0, rfl, .inr (.inl rfl)⟩
        · exact ⟨-1, rfl, .inr (.inr rfl)⟩
      obtain ⟨i, rfl, hi⟩ := hb'
      refine iteF ?_
      refine ⟨_, rfl, _, _, rfl, rfl, _, rfl, ?_⟩
      rw [decide_eq_false (by omega)]
      refine iteF ?_
      refine ⟨_, rfl, _, .ty "bool", _, _, false, rfl, .ty _, .base (.int i), kit_ty (by decide +kernel), _, rfl, iteF ?_⟩
      refine ⟨_, rfl, ?_⟩
      refine ⟨1, rfl, (by show 3 ≤ sizeLine; decide), fun t ht => ?_⟩
      refine ⟨t, [.int 1, .int 0, .int (-1)], rfl, .inr (SqT.of upd_same), rfl, rfl, _, rfl, ?_⟩
      have e3 : (if true = true then !inV (optV (some i)) [V.int 1, V.int 0, V.int (-1)] else inV (optV (some i)) [V.int 1, V.int 0, V.int (-1)]) = false := by rcases hi with rfl | rfl | rfl <;> rfl

      rw [e3]
      refine iteF ?_
      exact q _ (Same.new ht)
end
end C53
set_option linter.all false
/-! plain arithmetic: divisors -/
namespace C53
theorem sorted_unique : ∀ {l1 l2 : List Nat}, l1.Pairwise (· < ·) → l2.Pairwise (· < ·) → (∀ x, x ∈ l1 ↔ x ∈ l2) → l1 = l2
  | [], [], _, _, _ => rfl
  | [], y :: r, _, _, h => by
    have := (h y).mpr (List.mem_cons_self ..)
    cases this
  | x :: r, [], _, _, h => by
    have := (h x).mp (List.mem_cons_self ..)
    cases this
  | x :: r, y :: t, h1, h2, h => by
    have a1 := List.pairwise_cons.mp h1
    have a2 := List.pairwise_cons.mp h2
    have hxy : x = y := by
      rcases List.mem_cons.mp ((h x).mp (List.mem_cons_self ..)) with e | e
      · exact e
      · rcases List.mem_cons.mp ((h y).mpr (List.mem_cons_self ..)) with e' | e'
        · exact e'.symm
        · have := a2.1 x e
          have := a1.1 y e'
          omega
    subst hxy
    have := sorted_unique a1.2 a2.2 fun z => by
      constructor
      · intro hz
        rcases List.mem_cons.mp ((h z).mp (List.mem_cons_of_mem _ hz)) with e | e
        · subst e
          exact absurd (a1.1 z hz) (Nat.lt_irrefl _)
        · exact e
      · intro hz
        rcases List.mem_cons.mp ((h z).mpr (List.mem_cons_of_mem _ hz)) with e | e
        · subst e
          exact absurd (a2.1 z hz) (Nat.lt_irrefl _)
        · exact e
    rw [this]
def dv (n m : Nat) : List Nat := (List.range' 1 m).filter fun d => n % d == 0
def dh (n m : Nat) : List Nat := ((List.range' 1 m).filter fun d => n % d == 0 && decide (d * d < n)).map (n / ·)
theorem dv_succ (n m : Nat) : dv n (m + 1) = dv n m ++ if n % (m + 1) = 0 then [m + 1] else [] := by
  unfold dv
  rw [List.range'_1_concat, List.filter_append, Nat.add_comm 1 m]
  by_cases h : n % (m + 1) = 0
  · simp [h]
  · simp [h]
theorem dh_succ (n m : Nat) : dh n (m + 1) = dh n m ++ if n % (m + 1) = 0 ∧ (m + 1) * (m + 1) < n then [n / (m + 1)] else [] := by
  unfold dh
  rw [List.range'_1_concat, List.filter_append, List.map_append, Nat.add_comm 1 m]
  by_cases h : n % (m + 1) = 0 ∧ (m + 1) * (m + 1) < n
  · rw [if_pos h]
    simp [h.1, h.2]
  · rw [if_neg h]
    by_cases h1 : n % (m + 1) = 0
    · have h2 : ¬ (m + 1) * (m + 1) < n := fun z => h ⟨h1, z⟩
      simp [h1, h2]
    · simp [h1]
theorem range'_sorted (s m : Nat) : (List.range' s m).Pairwise (· < ·) := List.pairwise_lt_range' ..
theorem dv_sorted (n m : Nat) : (dv n m).Pairwise (· < ·) := (range'_sorted 1 m).filter _
theorem mem_dv {n m x : Nat} : x ∈ dv n m ↔ (1 ≤ x ∧ x ≤ m) ∧ n % x = 0 := by
  unfold dv
  rw [List.mem_filter, List.mem_range'_1]
  constructor
  · rintro ⟨h1, h2⟩
    exact ⟨⟨h1.1, by omega⟩, by simpa using h2⟩
  · rintro ⟨h1, h2⟩
    exact ⟨⟨h1.1, by omega⟩, by simpa using h2⟩
theorem mem_dh {n m x : Nat} : x ∈ dh n m ↔ ∃ d, ((1 ≤ d ∧ d ≤ m) ∧ n % d = 0 ∧ d * d < n) ∧ n / d = x := by
  unfold dh
  rw [List.mem_map]
  constructor
  · rintro ⟨d, h, e⟩
    rw [List.mem_filter, List.mem_range'_1] at h
    have h2 := h.2
    rw [Bool.and_eq_true] at h2
    exact ⟨d, ⟨⟨h.1.1, by have := h.1.2; omega⟩, by simpa using h2.1, by simpa using h2.2⟩, e⟩
  · rintro ⟨d, ⟨h1, h2, h3⟩, e⟩
    refine ⟨d, ?_, e⟩
    rw [List.mem_filter, List.mem_range'_1]
    exact ⟨⟨h1.1, by omega⟩, by simp [h2, h3]⟩
theorem div_lt_of {n a b : Nat} (ha : 1 ≤ a) (hn : 0 < n) (hab : a < b) (da : n % a = 0) (db : n % b = 0) : n / b < n / a := by
  have ea := Nat.div_add_mod n a
  have eb := Nat.div_add_mod n b
  rw [da, Nat.add_zero] at ea
  rw [db, Nat.add_zero] at eb
  have hb0 : 0 < n / b := by
    rcases Nat.eq_zero_or_pos (n / b) with e | e
    · rw [e] at eb
      omega
    · exact e
  rcases Nat.lt_or_ge (n / b) (n / a) with h | h
  · exact h
  · have h1 : a * (n / a) ≤ a * (n / b) := Nat.mul_le_mul_left a h
    have h2 : a * (n / b) < b * (n / b) := Nat.mul_lt_mul_of_pos_right hab hb0
    omega
theorem dh_sorted (n m : Nat) (hn : 0 < n) : (dh n m).Pairwise (· > ·) := by
  unfold dh
  rw [List.pairwise_map]
  refine List.Pairwise.imp_of_mem ?_ ((range'_sorted 1 m).filter _)
  intro a b ha hb hab
  rw [List.mem_filter, List.mem_range'_1, Bool.and_eq_true] at ha hb
  exact div_lt_of ha.1.1 hn hab (by simpa using ha.2.1) (by simpa using hb.2.1)
theorem div_all {n m : Nat} (hn : 0 < n) (hm : m * m ≤ n) (hm1 : n < (m + 1) * (m + 1)) : dv n m ++ (dh n m).reverse = dv n n := by
  refine sorted_unique ?_ (dv_sorted n n) fun x => ?_
  · rw [List.pairwise_append]
    refine ⟨dv_sorted n m, List.pairwise_reverse.mpr (dh_sorted n m hn), fun a ha b hb => ?_⟩
    rw [List.mem_reverse, mem_dh] at hb
    rw [mem_dv] at ha
    obtain ⟨d, ⟨⟨h1, h2⟩, h3, h4⟩, rfl⟩ := hb
    have ed := Nat.div_add_mod n d
    rw [h3, Nat.add_zero] at ed
    rcases Nat.lt_or_ge m (n / d) with h | h
    · omega
    · have k1 : d * (n / d) ≤ d * m := Nat.mul_le_mul_left d h
      have k2 : d * m ≤ m * m := Nat.mul_le_mul_right m h2
      have k3 : d * m = m * m := by omega
      have hm0 : 0 < m := by omega
      have k4 : d = m := Nat.eq_of_mul_eq_mul_right hm0 k3
      subst k4
      omega
  · rw [List.mem_append, List.mem_reverse, mem_dv, mem_dv, mem_dh]
    constructor
    · rintro (⟨h1, h2⟩ | ⟨d, ⟨⟨h1, h2⟩, h3, h4⟩, rfl⟩)
      · refine ⟨⟨h1.1, ?_⟩, h2⟩
        have : m ≤ m * m := Nat.le_mul_self m
        omega
      · have ed := Nat.div_add_mod n d
        rw [h3, Nat.add_zero] at ed
        have hp : 0 < n / d := by
          rcases Nat.eq_zero_or_pos (n / d) with e | e
          · rw [e] at ed
            omega
          · exact e
        refine ⟨⟨hp, Nat.div_le_self n d⟩, ?_⟩
        refine Nat.mod_eq_zero_of_dvd ⟨d, ?_⟩
        rw [Nat.mul_comm]
        exact ed.symm
    · rintro ⟨⟨h1, h2⟩, h3⟩
      rcases Nat.lt_or_ge m x with h | h
      · refine .inr ⟨n / x, ?_, ?_⟩
        · have ex := Nat.div_add_mod n x
          rw [h3, Nat.add_zero] at ex
          have hp : 0 < n / x := by
            rcases Nat.eq_zero_or_pos (n / x) with e | e
            · rw [e] at ex
              omega
            · exact e
          have hle : n / x ≤ m := by
            rcases Nat.lt_or_ge m (n / x) with g | g
            · have k1 : (m + 1) * (m + 1) ≤ x * (n / x) := Nat.mul_le_mul h g
              omega
            · exact g
          refine ⟨⟨hp, hle⟩, ?_, ?_⟩
          · refine Nat.mod_eq_zero_of_dvd ⟨x, ?_⟩
            rw [Nat.mul_comm]
            exact ex.symm
          · have k1 : (n / x) * (n / x) < x * (n / x) := Nat.mul_lt_mul_of_pos_right (by omega) hp
            omega
        · have ex := Nat.div_add_mod n x
          rw [h3, Nat.add_zero] at ex
          have hp : 0 < n / x := by
            rcases Nat.eq_zero_or_pos (n / x) with e | e
            · rw [e] at ex
              omega
            · exact e
          have : n = x * (n / x) := ex.symm
          refine Nat.div_eq_of_eq_mul_left hp ?_
          exact this
      · exact .inl ⟨⟨h1, h⟩, h3⟩
end C53
set_option linter.all false
/-! plain: what kinds_with's kinds keep -/
namespace C53
open PySem PySem.Spec PyProof.Rows L2 Ex
def gN (zs : List Int) : Nat := zs.foldl (fun g z => Nat.gcd g z.natAbs) 0
theorem gcdL_gN (zs : List Int) : gcdL zs = ((gN zs : Nat) : Int) := by
  have h : ∀ (zs : List Int) (g : Nat), zs.foldl gcdI (g : Int) = ((zs.foldl (fun g z => Nat.gcd g z.natAbs) g : Nat) : Int) := by
    intro zs
    induction zs with
    | nil => intro g; rfl
    | cons z r ih =>
      intro g
      exact ih (Nat.gcd g z.natAbs)
  exact h zs 0
theorem dvd_gN (d : Nat) (zs : List Int) : d ∣ gN zs ↔ ∀ z ∈ zs, d ∣ z.natAbs := by
  have h : ∀ (zs : List Int) (g : Nat), d ∣ zs.foldl (fun g z => Nat.gcd g z.natAbs) g ↔ d ∣ g ∧ ∀ z ∈ zs, d ∣ z.natAbs := by
    intro zs
    induction zs with
    | nil => intro g; simp
    | cons z r ih =>
      intro g
      rw [List.foldl_cons, ih, Nat.dvd_gcd_iff]
      constructor
      · rintro ⟨⟨a, b⟩, c⟩
        exact ⟨a, fun y hy => by
          rcases List.mem_cons.mp hy with e | e
          · subst e; exact b
          · exact c y e⟩
      · rintro ⟨a, b⟩
        exact ⟨⟨a, b z (List.mem_cons_self ..)⟩, fun y hy => b y (List.mem_cons_of_mem _ hy)⟩
  rw [show d ∣ gN zs ↔ _ from h zs 0]
  constructor
  · exact fun q => q.2
  · exact fun q => ⟨Nat.dvd_zero d, q⟩
theorem emod_of {d : Nat} {z : Int} : z % (d : Int) = 0 ↔ d ∣ z.natAbs := by
  rw [← Int.ofNat_dvd_left]
  exact ⟨Int.dvd_of_emod_eq_zero, Int.emod_eq_zero_of_dvd⟩
def balFor (nn mm : Int) (rs : List Int) (s : Int) : List (Option Int) := if hasBal nn mm s = true then (if oddRim nn rs s = true then [some 0] else [some (-1), some 1]) else [none]
theorem bal_len (nn mm : Int) (rs : List Int) (s : Int) : (balFor nn mm rs s).length ≤ 2 := by
  unfold balFor
  split
  · split <;> decide
  · decide
theorem bal_ok {nn mm s : Int} {rs : List Int} {b : Option Int} (h : b ∈ balFor nn mm rs s) : balOk nn mm rs s b = true ∧ (b = none ∨ b = some 1 ∨ b = some 0 ∨ b = some (-1)) := by
  unfold balFor at h
  unfold balOk
  by_cases e : hasBal nn mm s = true
  · rw [if_pos e] at h ⊢
    by_cases o : oddRim nn rs s = true
    · rw [if_pos o] at h
      obtain rfl := List.mem_singleton.mp h
      exact ⟨by simp [o], .inr (.inr (.inl rfl))⟩
    · rw [if_neg o] at h
      rw [Bool.not_eq_true] at o
      rcases List.mem_cons.mp h with rfl | h
      · exact ⟨by simp [o], .inr (.inr (.inr rfl))⟩
      · obtain rfl := List.mem_singleton.mp h
        exact ⟨by simp [o], .inr (.inl rfl)⟩
  · rw [if_neg e] at h ⊢
    obtain rfl := List.mem_singleton.mp h
    exact ⟨rfl, .inl rfl⟩
theorem kok0 {nn mm : Int} {rs : List Int} (hr : rimsOk mm rs = true) (hs : sumOk nn mm 0 rs = true) : KOk nn mm 0 rs none none none :=
  ⟨hr, hs, fun h => absurd h (by decide), fun _ => rfl, fun h => absurd h (by decide), fun _ => ⟨rfl, rfl⟩, Int.le_refl _⟩
theorem kok1' {nn mm i : Int} {rs : List Int} (hr : rimsOk mm rs = true) (hs : sumOk nn mm 1 rs = true) (hi : 0 ≤ i) (hm : measOk nn mm rs i = true) : KOk nn mm 1 rs (some i) none none :=
  ⟨hr, hs, fun _ => ⟨i, rfl, hi, hm⟩, fun h => absurd rfl h, fun h => absurd h (by decide), fun _ => ⟨rfl, rfl⟩, by decide⟩
theorem meas_iff {nn mm : Int} {rs : List Int} {d : Nat} (hd : 0 < d) : measOk nn mm rs d = true ↔ d ∣ gN (mm :: rs.map (· + nn)) := by
  have e : ∀ x : Int, dvd' d x = true ↔ d ∣ x.natAbs := fun x => by
    unfold dvd'
    rw [if_neg (by omega), decide_eq_true_iff]
    exact emod_of
  unfold measOk
  rw [Bool.and_eq_true, Bool.and_eq_true, decide_eq_true_iff, List.all_eq_true, dvd_gN, e]
  constructor
  · rintro ⟨⟨_, a⟩, b⟩ z hz
    rcases List.mem_cons.mp hz with rfl | hz
    · exact a
    · obtain ⟨r, hr, rfl⟩ := List.mem_map.mp hz
      exact (e _).mp (b r hr)
  · intro h
    refine ⟨⟨?_, h _ (List.mem_cons_self ..)⟩, fun r hr => (e _).mpr (h _ (List.mem_cons_of_mem _ (List.mem_map.mpr ⟨r, hr, rfl⟩)))⟩
    split <;> omega
theorem share_iff {nn mm : Int} {rs : List Int} {d : Nat} (hd : 0 < d) : shareOk nn mm rs d = true ↔ d ∣ gN (nn :: mm :: rs) := by
  unfold shareOk
  rw [Bool.and_eq_true, Bool.and_eq_true, Bool.and_eq_true, decide_eq_true_iff, decide_eq_true_iff, decide_eq_true_iff, List.all_eq_true, dvd_gN]
  constructor
  · rintro ⟨⟨⟨_, a⟩, b⟩, c⟩ z hz
    rcases List.mem_cons.mp hz with rfl | hz
    · exact emod_of.mp a
    · rcases List.mem_cons.mp hz with rfl | hz
      · exact emod_of.mp b
      · exact emod_of.mp (of_decide_eq_true (c z hz))
  · intro h
    refine ⟨⟨⟨by omega, emod_of.mpr (h _ (List.mem_cons_self ..))⟩, emod_of.mpr (h _ (List.mem_cons_of_mem _ (List.mem_cons_self ..)))⟩, fun r hr => decide_eq_true (emod_of.mpr (h _ (List.mem_cons_of_mem _ (List.mem_cons_of_mem _ hr))))⟩
theorem dvd_dv {d n : Nat} (h : d ∈ dv n n) : 0 < d ∧ d ≤ n ∧ d ∣ n := by
  have := mem_dv.mp h
  exact ⟨this.1.1, this.1.2, Nat.dvd_of_mod_eq_zero this.2⟩
theorem kok1 {nn mm : Int} {rs : List Int} {d : Nat} (hr : rimsOk mm rs = true) (hs : sumOk nn mm 1 rs = true) (hd : d ∈ dv (gN (mm :: rs.map (· + nn))) (gN (mm :: rs.map (· + nn)))) : KOk nn mm 1 rs (some (d : Int)) none none :=
  kok1' hr hs (by omega) ((meas_iff (dvd_dv hd).1).mpr (dvd_dv hd).2.2)
theorem kok2 {nn mm h : Int} {rs : List Int} {d : Nat} {b : Option Int} (h2 : 2 ≤ h) (hr : rimsOk mm rs = true) (hs : sumOk nn mm h rs = true) (hg : gN (nn :: mm :: rs) ≤ 1000000) (hd : d ∈ dv (gN (nn :: mm :: rs)) (gN (nn :: mm :: rs))) (hb : b ∈ balFor nn mm rs d) : KOk nn mm h rs none (some (d : Int)) b :=
  ⟨hr, hs, fun z => absurd z (by omega), fun _ => rfl, fun _ => ⟨d, rfl, ⟨by have := (dvd_dv hd).1; omega, by have := (dvd_dv hd).2.1; omega⟩, (share_iff (dvd_dv hd).1).mpr (dvd_dv hd).2.2, (bal_ok hb).1, (bal_ok hb).2⟩, fun z => absurd z (by omega), by omega⟩
end C53
set_option Elab.async false
set_option linter.all false
set_option maxRecDepth 100000
set_option maxHeartbeats 1000000
namespace C53
open PySem PySem.Spec PyProof.Rows L2 Ex
local macro_rules | `(tactic| walk_at "rd") => `(tactic| repeat (first | refine ⟨_, rfl, ?_⟩ | refine ⟨_, _, rfl, rfl, ?_⟩ | refine ⟨rfl, ?_⟩))
local macro_rules | `(tactic| walk_at "red") => `(tactic| dsimp only [tNext, tSeq, tIfS, tB, tCB, tCons, tNil, tRet, tAsg, tTest])
local macro_rules | `(tactic| walk_at "it") => `(tactic| repeat (first | refine iteT ?_ | refine iteF ?_))
/-- the kept objects, all but x -/
def Keeps (x : Addr) (H H' : Hp) : Prop := ∀ a o, a ≠ x → H a = some o → H' a = some o
theorem Keeps.upd {x : Addr} {H : Hp} {o : HO} : Keeps x H (upd H x o) := fun a o' n e => by rw [upd_ne n]; exact e
theorem Keeps.trans {x : Addr} {H H1 H2 : Hp} (h : Keeps x H H1) (h' : Keeps x H1 H2) : Keeps x H H2 := fun a o n e => h' a o n (h a o n e)
theorem Same.keeps {x : Addr} {H H' : Hp} (h : Same H H') : Keeps x H H' := fun a o _ e => h a o e
theorem Keeps.same {x : Addr} {H H' : Hp} (h : Keeps x H H') (n : H x = none) : Same H H' := fun a o e => h a o (ne_of_none e n) e
/-- a kind's counts -/
structure Kd where
  h : Int
  rs : List Int
  m : Option Int
  s : Option Int
  b : Option Int
  deriving DecidableEq
def kf (p : Addr) (h : Int) (t : Addr) (m s b : Option Int) : List (Str × V) := [("book", .ref p), ("handles", .int h), ("rims", .ref t), ("measure", optV m), ("share", optV s), ("balance", optV b)]
theorem kf_put (p : Addr) (h : Int) (t : Addr) (m s b : V) : putF "balance" b (putF "share" s (putF "measure" m (putF "rims" (.ref t) (putF "handles" (.int h) (putF "book" (.ref p) []))))) = ([("book", .ref p), ("handles", .int h), ("rims", .ref t), ("measure", m), ("share", s), ("balance", b)] : List (Str × V)) := by with_unfolding_all rfl
structure IsKind (CB CK : Addr) (K : PySem.W.Frag) (H : Hp) (x : Addr) (nn mm : Int) (kd : Kd) : Prop where
  ex : ∃ dx p t, H x = some (.ins CK dx (kf p kd.h t kd.m kd.s kd.b)) ∧ IsBook CB H p nn mm ∧ H t = some (.tup (kd.rs.map V.int))
structure KindC (K : PySem.W.Frag) (CK : Addr) : Prop where
  cl : Cls K CK
  n1 : NoAttr K CK "book"
  n2 : NoAttr K CK "handles"
  n3 : NoAttr K CK "rims"
  n4 : NoAttr K CK "measure"
  n5 : NoAttr K CK "share"
  n6 : NoAttr K CK "balance"
theorem IsKind.same {CB CK : Addr} {K : PySem.W.Frag} {H H' : Hp} {x : Addr} {nn mm : Int} {kd : Kd} (e : Same H H') (h : IsKind CB CK K H x nn mm kd) : IsKind CB CK K H' x nn mm kd := by
  obtain ⟨dx, p, t, h1, h2, h3⟩ := h.ex
  exact ⟨dx, p, t, e _ _ h1, h2.same e, e _ _ h3⟩
theorem IsBook.keep {C x : Addr} {H H' : Hp} {p : Addr} {nn mm : Int} (e : Keeps x H H') (n : p ≠ x) (h : IsBook C H p nn mm) : IsBook C H' p nn mm := let ⟨dx, q⟩ := h; ⟨dx, e _ _ n q⟩
theorem ne_ins {H : Hp} {a b C dx : Addr} {fs : List (Str × V)} {o : HO} (h1 : H a = some o) (h2 : H b = some (.ins C dx fs)) (hne : ∀ C dx fs, o ≠ .ins C dx fs) : a ≠ b := fun e => by
  subst e
  rw [h1] at h2
  exact hne _ _ _ (Option.some.inj h2)
abbrev s_Kind_text : Stmt := inClass (topS 44) 1
abbrev N_Kind_text : List Str := ["self"]
theorem sc_Kind_text : FnScope N_Kind_text ["self"] (defScope s_Kind_text) := ⟨rfl, rfl, rfl, by decide +kernel, rfl, by decide +kernel, by decide +kernel⟩
abbrev s_balance_word : Stmt := topS 35
abbrev N_balance_word : List Str := ["balance"]
theorem sc_balance_word : FnScope N_balance_word ["balance"] (defScope s_balance_word) := ⟨rfl, rfl, rfl, by decide +kernel, rfl, by decide +kernel, by decide +kernel⟩
abbrev s_kind_text : Stmt := topS 41
abbrev N_kind_text : List Str := ["book", "counts", "handles", "rims", "measure", "share", "balance", "lines", "rim"]
theorem sc_kind_text : FnScope N_kind_text ["book", "counts"] (defScope s_kind_text) := ⟨rfl, rfl, rfl, by decide +kernel, rfl, by decide +kernel, by decide +kernel⟩
theorem mIll (nn mm h : Int) (rs : List Int) (m s b : Option Int) (ok : KOk nn mm h rs m s b) : IllOk h m s b := by
  refine ⟨ok.h0, ?_, ?_, ?_⟩
  · constructor
    · intro e e1
      obtain ⟨i, r, _⟩ := ok.m1 e1
      rw [e] at r
      cases r
    · exact ok.m0
  · constructor
    · intro e e2
      obtain ⟨i, r, _⟩ := ok.s2 e2
      rw [e] at r
      cases r
    · intro e
      exact (ok.s0 (by omega)).1
  · by_cases e : 2 ≤ h
    · obtain ⟨i, r, _, _, _, q⟩ := ok.s2 e
      rcases q with q | q
      · exact .inl q
      · exact .inr ⟨e, q⟩
    · exact .inl (ok.s0 (by omega)).2
/-- a tuple's own object (SqT of a tracked one) -/
def SqX (K : PySem.W.Frag) (H : Hp) (a : Addr) (xs : List V) : Prop := H a = some (.lst xs) ∨ H a = some (.tup xs)
theorem SqX.a {K : PySem.W.Frag} {H : Hp} {a : Addr} {xs : List V} (h : SqX K H a xs) : SqA K H a xs := by
  rcases h with h | h
  · exact sqA_l h
  · exact sqA_t h
theorem SqX.same {K : PySem.W.Frag} {H H' : Hp} {a : Addr} {xs : List V} (e : Same H H') (h : SqX K H a xs) : SqX K H' a xs := by
  rcases h with h | h
  · exact .inl (e _ _ h)
  · exact .inr (e _ _ h)
theorem tuple_either {K : PySem.W.Frag} {H : Hp} {a : Addr} {ys : List V} {Q : VK} (h : SqX K H a ys) (q : ∀ t H', Same H H' → H' t = some (.tup ys) → Q (.ref t) H') :
    ∃ p zs, [V.ref a] = [V.ref p] ∧ ((SqL K H p zs ∧ ∀ l, H l = none → Q (.ref l) (upd H l (.tup zs))) ∨ (SqT K H p zs ∧ Q (.ref p) H)) := by
  rcases h with h | h
  · exact ⟨a, ys, rfl, .inl ⟨SqL.of h, fun t ht => q t _ (Same.new ht) upd_same⟩⟩
  · exact ⟨a, ys, rfl, .inr ⟨SqT.of h, q a H (Same.refl H) h⟩⟩
def rTupA (K : PySem.W.Frag) : List V → Hp → VK → Prop := fun xs H Q => ∃ a ys, xs = [V.ref a] ∧ SqX K H a ys ∧ ∀ t H', Same H H' → H' t = some (.tup ys) → Q (.ref t) H'
theorem call_tuple_A {X : Cx} : CallR X (.type "tuple") (rTupA X.K) := by
  intro pins s σ H xs us Q I r h
  obtain ⟨a, ys, rfl, h, q⟩ := h
  exact call_tuple_of pins s σ H _ us Q I r (tuple_either h q)
theorem kf_book (p : Addr) (h : Int) (t : Addr) (m s b : Option Int) : (kf p h t m s b).lookup ("book" : Str) = some (.ref p) := by with_unfolding_all rfl
theorem kf_handles (p : Addr) (h : Int) (t : Addr) (m s b : Option Int) : (kf p h t m s b).lookup ("handles" : Str) = some (.int h) := by with_unfolding_all rfl
theorem kf_rims (p : Addr) (h : Int) (t : Addr) (m s b : Option Int) : (kf p h t m s b).lookup ("rims" : Str) = some (.ref t) := by with_unfolding_all rfl
theorem kf_measure (p : Addr) (h : Int) (t : Addr) (m s b : Option Int) : (kf p h t m s b).lookup ("measure" : Str) = some (optV m) := by with_unfolding_all rfl
theorem kf_share (p : Addr) (h : Int) (t : Addr) (m s b : Option Int) : (kf p h t m s b).lookup ("share" : Str) = some (optV s) := by with_unfolding_all rfl
theorem kf_balance (p : Addr) (h : Int) (t : Addr) (m s b : Option Int) : (kf p h t m s b).lookup ("balance" : Str) = some (optV b) := by with_unfolding_all rfl
section
variable {P : Program} {w : World} {K : PySem.W.Frag} {mg : Str → Option Value} {base : Heap} {k : Nat} {f : Addr} {fd : FuncData}
def spKindInit (K : PySem.W.Frag) (CB CK : Addr) : Sp := fun vs H Q _ => ∃ (x p a dx : Addr) (nn mm h : Int) (rs : List Int) (m s b : Option Int), vs = [.ref x, .ref p, .int h, .ref a, optV m, optV s, optV b] ∧ H x = some (.ins CK dx []) ∧ IsBook CB H p nn mm ∧ p ≠ x ∧ SqX K H a (rs.map V.int) ∧ rs.length ≤ 1000 ∧
  (-1000 < nn ∧ nn < 1000) ∧ 0 ≤ mm ∧ KOk nn mm h rs m s b ∧ ∀ H', Keeps x H H' → IsKind CB CK K H' x nn mm ⟨h, rs, m, s, b⟩ → Q .non H'
theorem ok_kind_init {CB CK : Addr} (T : Tx mg) (B : KindC K CK) (C_ill_formed : Cal P w K mg base k "ill_formed" ["handles", "measure", "share", "balance"] spIll) (C_broken_count : Cal P w K mg base k "broken_count" ["book", "handles", "rims", "measure", "share", "balance"] (spBroken K CB))
    (F : FunD K "__init__" "Kind.__init__" (defArgs s_Kind_init) (defBody s_Kind_init) (defScope s_Kind_init) [] [("measure", .non), ("share", .non), ("balance", .non)] f fd) : FnOk P w K mg base CX0 (k + 1) f fd ["self", "book", "handles", "rims", "measure", "share", "balance"] (spKindInit K CB CK) := by
  refine F.ok sc_Kind_init (fun vs H Q E h => ?_) (fun cdv A outer s H vs Q E hr h => ?_)
  · obtain ⟨_, _, _, _, _, _, _, _, _, _, _, rfl, _⟩ := h
    rfl
  · obtain ⟨x, p, a, dx, nn, mm, hh, rs, m, sh, b, rfl, hx, hb, npx, hS, hl, hn, hm, ok, q⟩ := h
    refine ⟨_, PSs.nox (pss_cons (ps_set (i := 7) sc_Kind_init.nd rfl (.inl rfl) (pe_u C_ill_formed hr (pa_cons (pv 2) (pa_cons (pv 4) (pa_cons (pv 5) (pa_cons (pv 6) pa_nil))))))
    (pss_cons (ps_if (pt_cmpR op_notN (pv 7) pe_non (nomark _)) (pss_one ps_never) pss_nil)
    (pss_cons (ps_fld (pv 0) (pv 1) rfl)
    (pss_cons (ps_fld (pv 0) (pv 2) rfl)
    (pss_cons (ps_fld (pv 0) (pe_callTy call_tuple_A (by rfl) T.b_tuple (by decide +kernel) (pa_cons (pv 3) pa_nil)) rfl)
    (pss_cons (ps_fld (pv 0) (pv 4) rfl)
    (pss_cons (ps_fld (pv 0) (pv 5) rfl)
    (pss_cons (ps_fld (pv 0) (pv 6) rfl)
    (pss_cons (ps_set (i := 8) sc_Kind_init.nd rfl (.inl rfl) (pe_u C_broken_count hr (pa_cons (pv 1) (pa_cons (pv 2) (pa_cons (pe_fld (pv 0) rfl) (pa_cons (pv 4) (pa_cons (pv 5) (pa_cons (pv 6) pa_nil))))))))
    (pss_one (ps_if (pt_cmpR op_notN (pv 8) pe_non (nomark _)) (pss_one ps_never) pss_nil))))))))))), ?_⟩
    refine ⟨_, rfl, _, rfl, _, rfl, _, rfl, hh, m, sh, b, rfl, mIll _ _ _ _ _ _ _ ok, fun H1 e1 => ?_⟩
    refine ⟨_, rfl, rfl, _, rfl, iteF ?_⟩
    refine ⟨_, rfl, _, rfl, x, CK, dx, [], rfl, e1 _ _ hx, B.cl, B.n1, (by show 0 < 1000; decide), ?_⟩
    refine ⟨_, rfl, _, rfl, x, CK, dx, _, rfl, upd_same, B.cl, B.n2, (by show 1 < 1000; decide), ?_⟩
    rw [upd_upd]
    have hS1 : SqX K (upd H1 x (.ins CK dx (putF "handles" (.int hh) (putF "book" (.ref p) [])))) a (rs.map V.int) := by
      rcases hS with h | h
      · exact .inl (Keeps.upd _ _ (ne_ins h hx (by intros; intro z; cases z)) (e1 _ _ h))
      · exact .inr (Keeps.upd _ _ (ne_ins h hx (by intros; intro z; cases z)) (e1 _ _ h))
    refine ⟨_, rfl, a, _, rfl, hS1, fun t H2 e2 ht => ?_⟩
    have hx2 := e2 _ _ upd_same
    refine ⟨_, rfl, x, CK, dx, _, rfl, hx2, B.cl, B.n3, (by show 2 < 1000; decide), ?_⟩
    refine ⟨_, rfl, _, rfl, x, CK, dx, _, rfl, upd_same, B.cl, B.n4, (by show 3 < 1000; decide), ?_⟩
    refine ⟨_, rfl, _, rfl, x, CK, dx, _, rfl, upd_same, B.cl, B.n5, (by show 4 < 1000; decide), ?_⟩
    refine ⟨_, rfl, _, rfl, x, CK, dx, _, rfl, upd_same, B.cl, B.n6, (by show 5 < 1000; decide), ?_⟩
    rw [upd_upd, upd_upd, upd_upd, kf_put]
    have tx : t ≠ x := ne_ins ht hx2 (by intros; intro z; cases z)
    have k1 : Keeps x H (upd H2 x (.ins CK dx (kf p hh t m sh b))) := fun a' o n e => by
      rw [upd_ne n]
      refine e2 _ _ ?_
      rw [upd_ne n]
      exact e1 _ _ e
    have ht2 : upd H2 x (.ins CK dx (kf p hh t m sh b)) t = some (.tup (rs.map V.int)) := by
      rw [upd_ne tx]
      exact ht
    have hb2 := hb.keep k1 npx
    refine ⟨_, rfl, _, rfl, _, rfl, x, CK, dx, _, _, rfl, upd_same, B.cl, B.n3, (kf_rims p hh t m sh b), ?_⟩
    refine ⟨_, rfl, _, rfl, _, rfl, p, t, nn, mm, hh, rs, m, sh, b, rfl, hb2, sqA_t ht2, hl, hn, hm, ok, fun H3 e3 => ?_⟩
    refine ⟨_, rfl, rfl, _, rfl, iteF ?_⟩
    exact q _ (k1.trans (Same.keeps e3)) ⟨dx, p, t, e3 _ _ upd_same, hb2.same e3, e3 _ _ ht2⟩
end
/-! ### texts -/
def tI (i : Int) : Str := Str.ofString (toString i)
def Lil (i : Int) : Prop := i.natAbs.log2 < 1920
theorem lil_of {i : Int} (h : -1000000000 < i ∧ i < 1000000000) : Lil i := by
  by_cases e : i.natAbs = 0
  · unfold Lil
    rw [e]
    decide
  · refine (Nat.log2_lt e).mpr (Nat.lt_of_lt_of_le (show i.natAbs < 2 ^ 30 by omega) (Nat.pow_le_pow_right (by decide) (by decide)))
theorem len_tI {i : Int} (h : Lil i) : (tI i).length ≤ 1921 := int_text_len_1921 h
theorem join_len (sep : Str) : ∀ ys : List Str, (Str.join sep ys).length ≤ (ys.map (·.length)).sum + ys.length * sep.length
  | [] => Nat.zero_le _
  | [x] => by
    show x.length ≤ _
    simp
  | x :: y :: r => by
    show (x ++ sep ++ Str.join sep (y :: r)).length ≤ _
    have := join_len sep (y :: r)
    rw [Str.length_append, Str.length_append, List.map_cons, List.sum_cons, List.length_cons]
    rw [Nat.succ_mul]
    omega
theorem sum_le {n : Nat} : ∀ ys : List Str, (∀ y ∈ ys, y.length ≤ n) → (ys.map (·.length)).sum ≤ ys.length * n
  | [], _ => Nat.zero_le _
  | y :: r, h => by
    have h1 := h y (List.mem_cons_self ..)
    have h2 := sum_le r fun z hz => h z (List.mem_cons_of_mem _ hz)
    rw [List.map_cons, List.sum_cons, List.length_cons, Nat.succ_mul]
    omega
def rimStrs (rs : List Int) : List Str := [("rims" : Str)] ++ rs.map tI
theorem rim_sum {rs : List Int} (hl : rs.length ≤ 1000) (h : ∀ r ∈ rs, Lil r) : ((rimStrs rs).map (·.length)).sum + (rimStrs rs).length * (" " : Str).length ≤ 2000000 := by
  have h1 := sum_le (n := 1921) (rs.map tI) fun y hy => by
    obtain ⟨r, hr, rfl⟩ := List.mem_map.mp hy
    exact len_tI (h r hr)
  rw [List.length_map] at h1
  have e1 : (rimStrs rs).length = rs.length + 1 := by simp [rimStrs]
  have e2 : ((rimStrs rs).map (·.length)).sum = 4 + ((rs.map tI).map (·.length)).sum := by
    show (("rims" : Str).length :: (rs.map tI).map (·.length)).sum = _
    rw [List.sum_cons]
    rfl
  rw [e1, e2, show (" " : Str).length = 1 by rfl]
  have : rs.length * 1921 ≤ 1000 * 1921 := Nat.mul_le_mul_right _ hl
  omega
def rimLine (rs : List Int) : Str := Str.join " " (rimStrs rs)
def bw : Option Int → Str
  | none => "none"
  | some b => if b = 0 then "0" else if 0 < b then "+" else "-"
theorem bw_len (b : Option Int) : (bw b).length ≤ 4 := by
  cases b with
  | none => decide
  | some b =>
    unfold bw
    dsimp only
    split
    · decide
    · split <;> decide
def oget (o : Option Int) : Int := o.getD 0
def kLines (nn mm : Int) (kd : Kd) : List Str :=
  [("kind" : Str), ("arms " : Str) ++ tI nn, ("modulus " : Str) ++ tI mm, ("handles " : Str) ++ tI kd.h, rimLine kd.rs] ++ ((if kd.h = 1 then [("measure " : Str) ++ tI (oget kd.m)] else []) ++ ((if 2 ≤ kd.h then [("share " : Str) ++ tI (oget kd.s), ("balance " : Str) ++ bw kd.b] else []) ++ [("done" : Str)]))
def kTxt (nn mm : Int) (kd : Kd) : Str := Str.join "\n" (kLines nn mm kd) ++ "\n"
structure TxtOk (nn mm : Int) (kd : Kd) : Prop where
  n : Lil nn
  m : Lil mm
  h : Lil kd.h
  l : kd.rs.length ≤ 1000
  r : ∀ r ∈ kd.rs, Lil r
  m1 : kd.h = 1 → ∃ i, kd.m = some i ∧ Lil i
  s2 : 2 ≤ kd.h → ∃ i, kd.s = some i ∧ Lil i
theorem fj_len {a : Str} {b : Str} {n m : Nat} (ha : a.length ≤ n) (hb : b.length ≤ m) (h : n + m ≤ sizeLine) : ((Str.empty ++ a) ++ b).length ≤ sizeLine := by
  rw [Str.empty_append, Str.length_append]
  omega
theorem e_len {a : Str} {n : Nat} (ha : a.length ≤ n) (h : n ≤ sizeLine) : (Str.empty ++ a).length ≤ sizeLine := by
  rw [Str.empty_append]
  omega
section
variable {P : Program} {w : World} {K : PySem.W.Frag} {mg : Str → Option Value} {base : Heap} {k : Nat} {f : Addr} {fd : FuncData}
def spBw : Sp := fun vs H Q _ => ∃ b : Option Int, vs = [optV b] ∧ Q (.str (bw b)) H
theorem ok_balance_word (F : Fun K "balance_word" "balance_word" s_balance_word f fd) : FnOk P w K mg base CX0 (k + 1) f fd ["balance"] spBw := by
  refine F.ok sc_balance_word (fun vs H Q E h => ?_) (fun cdv A outer s H vs Q E hr h => ?_)
  · obtain ⟨b, rfl, _⟩ := h
    rfl
  · obtain ⟨b, rfl, q⟩ := h
    refine ⟨_, (pss_cons (ps_if (pt_cmpR op_isN (pv 0) pe_non (nomark _)) (pss_one (ps_ret pe_str)) pss_nil)
    (pss_cons (ps_if (pt_cmpR op_eq (pv 0) pe_int (nomark _)) (pss_one (ps_ret pe_str)) pss_nil)
    (pss_one (ps_ret (pe_ifExp (pt_cmpR op_gt (pv 0) pe_int (nomark _)) pe_str pe_str))))), ?_⟩
    refine ⟨_, rfl, rfl, _, rfl, ?_⟩
    rw [optN]
    cases b with
    | none => exact iteT q
    | some b =>
      refine iteF ?_
      refine ⟨_, rfl, rfl, _, rfl, ?_⟩
      show if decide (V.int b = V.int 0) = true then _ else _
      rw [decI]
      unfold bw at q
      dsimp only at q
      by_cases h0 : b = 0
      · rw [if_pos h0] at q
        rw [decide_eq_true h0]
        exact iteT q
      · rw [if_neg h0] at q
        rw [decide_eq_false h0]
        refine iteF ?_
        refine ⟨_, rfl, _, _, rfl, rfl, _, rfl, ?_⟩
        by_cases h1 : 0 < b
        · rw [if_pos h1] at q
          rw [decide_eq_true h1]
          exact iteT q
        · rw [if_neg h1] at q
          rw [decide_eq_false h1]
          exact iteF q
/-- f"name {i}" -/
theorem rd_fj {te : TE} {a : Str} {i : Int} {σ : L2.St} {H : Hp} {Q : Str → Hp → Prop} (ha : a.length ≤ 100) (hi : Lil i) (ht : ∀ R : VK, R (.int i) H → te σ H R) (q : Q (a ++ tI i) H) : tJs [tC (.str a), tFmt te] Str.empty σ H Q := by
  refine ⟨a, rfl, e_len ha (by decide), ht _ (.inr ⟨i, rfl, hi, tI i, rfl, fj_len ha (len_tI hi) (by decide), ?_⟩)⟩
  show Q ((Str.empty ++ a) ++ tI i) H
  rw [Str.empty_append]
  exact q
theorem small1000' {n : Nat} (h : n ≤ 1001) : n < sizeLine := Nat.lt_of_le_of_lt h (by decide)
theorem tj (a : Str) (ys : List Str) : Txt.join a ys = Str.join a ys := StrLaws.glued_eq_join a ys
theorem rd_rims {K : PySem.W.Frag} {tl te : TE} {vs : List Nat} {σ : L2.St} {H : Hp} {j : Nat} {t : Addr} {rs : List Int} {Q : VK} (src : SqA K H t (rs.map V.int)) (hl : rs.length ≤ 1000) (hr : ∀ r ∈ rs, Lil r) (htl : ∀ H' (R : VK), R (.ref t) H' → tl σ H' R)
    (hw : ∀ x, wipe ((wipe σ vs).set j (some x)) vs = wipe σ vs) (hel : ∀ r ∈ rs, ∀ H', ∀ Q' : VK, Q' (.str (tI r)) H' → te ((wipe σ vs).set j (some (.int r))) H' Q') (q : ∀ H', Same H H' → Q (.str (rimLine rs)) H') :
    tM1 (fun x xs H Q => ∃ a p, ∃ ys : List Str, x = .str a ∧ xs = [.ref p] ∧ (SqL K H p (ys.map V.str) ∨ SqT K H p (ys.map V.str)) ∧ (ys.map (·.length)).sum + ys.length * a.length ≤ 16777216 ∧ Q (.str (Txt.join a ys)) H)
      (tC (.str " ")) (tOp rCat (tLst (tCons (tC (.str "rims")) tNil)) (tLc (iSeq K tl) (gName j) tYes te vs)) σ H Q := by
  refine ⟨⟨_, rfl⟩, (by show 1 ≤ sizeLine; decide), fun M hM => ?_⟩
  refine tlc_pure (K := K) (a := t) (xs := rs.map V.int) (onI fun i => .str (tI i)) (fun R r => htl _ R r) (sqA_same (Same.new hM) src) (len1000 hl) hw (fun x hx H' e Q' q' => ?_) fun D hD => ?_
  · obtain ⟨r, hr, rfl⟩ := List.mem_map.mp hx
    exact hel r hr _ _ q'
  rw [onI_map]
  refine ⟨M, D, _, _, rfl, rfl, Same.new hD _ _ upd_same, upd_same, ?_, fun W hW => ?_⟩
  · rw [List.length_map]
    show 1 + rs.length ≤ sizeLine
    exact Nat.le_of_lt (small1000' (by omega))
  refine ⟨" ", W, rimStrs rs, rfl, rfl, .inl (SqL.of ?_), Nat.le_trans (rim_sum hl hr) (by decide), ?_⟩
  · rw [upd_same, rimStrs, List.map_append, List.map_map]
    rfl
  rw [tj]
  exact q _ ((Same.new hM).trans ((Same.new hD).trans (Same.new hW)))
theorem rl_len {rs : List Int} (hl : rs.length ≤ 1000) (h : ∀ r ∈ rs, Lil r) : (rimLine rs).length ≤ 2000001 := Nat.le_trans (join_len _ _) (Nat.le_trans (rim_sum hl h) (by decide))
theorem kl_sum {nn mm : Int} {kd : Kd} (ok : TxtOk nn mm kd) : ((kLines nn mm kd).map (·.length)).sum + (kLines nn mm kd).length * 1 ≤ 16777216 - 8 := by
  have h1 : ∀ (a : Str) (i : Int), a.length ≤ 100 → Lil i → (a ++ tI i).length ≤ 2000001 := fun a i ha hi => by
    have := len_tI hi
    rw [Str.length_append]
    omega
  have hs := sum_le (n := 2000001) (kLines nn mm kd) fun y hy => by
    unfold kLines at hy
    rcases List.mem_append.mp hy with hy | hy
    · rcases hy with _ | ⟨_, hy⟩
      · decide
      rcases hy with _ | ⟨_, hy⟩
      · exact h1 _ _ (by decide) ok.n
      rcases hy with _ | ⟨_, hy⟩
      · exact h1 _ _ (by decide) ok.m
      rcases hy with _ | ⟨_, hy⟩
      · exact h1 _ _ (by decide) ok.h
      rcases hy with _ | ⟨_, hy⟩
      · exact rl_len ok.l ok.r
      cases hy
    · rcases List.mem_append.mp hy with hy | hy
      · by_cases e : kd.h = 1
        · rw [if_pos e] at hy
          obtain ⟨i, em, hi⟩ := ok.m1 e
          rw [em] at hy
          obtain rfl := List.mem_singleton.mp hy
          exact h1 _ _ (by decide) hi
        · rw [if_neg e] at hy
          cases hy
      · rcases List.mem_append.mp hy with hy | hy
        · by_cases e : 2 ≤ kd.h
          · rw [if_pos e] at hy
            obtain ⟨i, em, hi⟩ := ok.s2 e
            rw [em] at hy
            rcases hy with _ | ⟨_, hy⟩
            · exact h1 _ _ (by decide) hi
            rcases hy with _ | ⟨_, hy⟩
            · have := bw_len kd.b
              rw [Str.length_append]
              have e9 : (("balance " : Str)).length = 8 := by decide
              omega
            cases hy
          · rw [if_neg e] at hy
            cases hy
        · obtain rfl := List.mem_singleton.mp hy
          decide
  have hl : (kLines nn mm kd).length ≤ 8 := by
    unfold kLines
    by_cases e : kd.h = 1
    · rw [if_pos e, if_neg (by omega)]
      show 7 ≤ 8
      decide
    · rw [if_neg e]
      by_cases e2 : 2 ≤ kd.h
      · rw [if_pos e2]
        show 8 ≤ 8
        decide
      · rw [if_neg e2]
        show 6 ≤ 8
        decide
  have := Nat.mul_le_mul_right 2000001 hl
  omega
theorem kl_sum' {nn mm : Int} {kd : Kd} (ok : TxtOk nn mm kd) : ((kLines nn mm kd).map (·.length)).sum + (kLines nn mm kd).length * (("\n" : Str)).length ≤ 16777216 := by
  have := kl_sum ok
  rw [show (("\n" : Str)).length = 1 by decide]
  omega
theorem kl_len {nn mm : Int} {kd : Kd} (ok : TxtOk nn mm kd) : (Str.join "\n" (kLines nn mm kd)).length + (("\n" : Str)).length ≤ sizeLine := by
  have h1 := kl_sum ok
  have h2 := join_len "\n" (kLines nn mm kd)
  rw [show (("\n" : Str)).length = 1 by decide] at *
  show _ ≤ 16777216
  omega
def spKText (K : PySem.W.Frag) (CB : Addr) : Sp := fun vs H Q _ => ∃ (p c t : Addr) (nn mm : Int) (kd : Kd), vs = [.ref p, .ref c] ∧ IsBook CB H p nn mm ∧ H c = some (.tup [.int kd.h, .ref t, optV kd.m, optV kd.s, optV kd.b]) ∧ H t = some (.tup (kd.rs.map V.int)) ∧ TxtOk nn mm kd ∧ ∀ H', Same H H' → Q (.str (kTxt nn mm kd)) H'
theorem ok_kind_text {CB : Addr} (T : Tx mg) (B : BookC K CB) (C_balance_word : Cal P w K mg base k "balance_word" ["balance"] spBw) (F : Fun K "kind_text" "kind_text" s_kind_text f fd) : FnOk P w K mg base CX0 (k + 1) f fd ["book", "counts"] (spKText K CB) := by
  refine F.ok sc_kind_text (fun vs H Q E h => ?_) (fun cdv A outer s H vs Q E hr h => ?_)
  · obtain ⟨_, _, _, _, _, _, rfl, _⟩ := h
    rfl
  · obtain ⟨p, c, t, nn, mm, kd, rfl, hb, hc, ht, ok, q⟩ := h
    refine ⟨_, (pss_cons (ps_asg (pv 1) (pg_tup (by rfl) (pgs_cons (pg_name (i := 2) sc_kind_text.nd rfl (.inl rfl)) (pgs_cons (pg_name (i := 3) sc_kind_text.nd rfl (.inl rfl)) (pgs_cons (pg_name (i := 4) sc_kind_text.nd rfl (.inl rfl)) (pgs_cons (pg_name (i := 5) sc_kind_text.nd rfl (.inl rfl)) (pgs_cons (pg_name (i := 6) sc_kind_text.nd rfl (.inl rfl)) pgs_nil)))))))
    (pss_cons (ps_set (i := 7) sc_kind_text.nd rfl (.inl rfl) (pe_lst (pa_cons pe_str (pa_cons (pe_joined (.cons pe_str (.cons (pe_fmt (pe_fld (pv 0) rfl)) .nil))) (pa_cons (pe_joined (.cons pe_str (.cons (pe_fmt (pe_fld (pv 0) rfl)) .nil))) (pa_cons (pe_joined (.cons pe_str (.cons (pe_fmt (pv 2)) .nil))) pa_nil))))))
    (pss_cons (ps_expr (pe_bm PySem.F.plainAttrs_list PySem.F.slot_list_append PySem.F.type_list_append mt_append (pv 7) (pa_cons (pe_join pe_str (pe_op op_cat (pe_lst (pa_cons pe_str pa_nil)) (pe_lc (own := [("rim", 8)]) (g := gName 8) rfl sc_kind_text.nd (pi_seq (pv 3)) (blkOk_by (own := [("rim", 8)]) (N := N_kind_text) (sc := defScope s_kind_text) (by decide +kernel)) (fun _ _ _ _ _ => pg_name (i := 8) sc_kind_text.nd rfl (.inl rfl)) (fun _ _ _ _ _ => pts_nil) (fun _ _ _ _ _ => (pe_callTy call_str_int (by rfl) T.b_str (by decide +kernel) (pa_cons (pv 8) pa_nil)))))) pa_nil)))
    (pss_cons (ps_if (pt_cmpR op_eq (pv 2) pe_int (nomark _)) (pss_one (ps_expr (pe_bm PySem.F.plainAttrs_list PySem.F.slot_list_append PySem.F.type_list_append mt_append (pv 7) (pa_cons (pe_joined (.cons pe_str (.cons (pe_fmt (pv 4)) .nil))) pa_nil)))) pss_nil)
    (pss_cons (ps_if (pt_cmpR op_ge (pv 2) pe_int (nomark _)) (pss_cons (ps_expr (pe_bm PySem.F.plainAttrs_list PySem.F.slot_list_append PySem.F.type_list_append mt_append (pv 7) (pa_cons (pe_joined (.cons pe_str (.cons (pe_fmt (pv 5)) .nil))) pa_nil)))
    (pss_one (ps_expr (pe_bm PySem.F.plainAttrs_list PySem.F.slot_list_append PySem.F.type_list_append mt_append (pv 7) (pa_cons (pe_joined (.cons pe_str (.cons (pe_fmt (pe_u C_balance_word hr (pa_cons (pv 6) pa_nil))) .nil))) pa_nil))))) pss_nil)
    (pss_cons (ps_expr (pe_bm PySem.F.plainAttrs_list PySem.F.slot_list_append PySem.F.type_list_append mt_append (pv 7) (pa_cons pe_str pa_nil)))
    (pss_one (ps_ret (pe_op op_add_str (pe_join pe_str (pv 7)) pe_str))))))))), ?_⟩
    refine ⟨_, rfl, c, _, rfl, SqT.of hc, rfl, ?_⟩
    refine ⟨_, _, rfl, _, _, rfl, _, _, rfl, _, _, rfl, _, _, rfl, rfl, ?_⟩
    walk_at "red"
    refine rd_fj (a := "arms ") (by decide) ok.n (fun R r => rd_arms B hb (fun R r => ⟨_, rfl, r⟩) r) ?_
    refine rd_fj (a := "modulus ") (by decide) ok.m (fun R r => rd_modulus B hb (fun R r => ⟨_, rfl, r⟩) r) ?_
    refine rd_fj (a := "handles ") (by decide) ok.h (fun R r => ⟨_, rfl, r⟩) ?_
    refine ⟨(by show 4 ≤ sizeLine; decide), fun L hL => ?_⟩
    refine ⟨_, rfl, .inl ⟨rfl, _, SqL.of upd_same⟩, ?_⟩
    refine rd_rims (t := t) (rs := kd.rs) (sqA_t (Same.new hL _ _ ht)) ok.l ok.r (fun H R r => ⟨_, rfl, r⟩) (fun _ => rfl) (fun r hr H' Q' q' => ⟨_, rfl, r, rfl, ok.r r hr, q'⟩) fun H2 e2 => ?_
    have kp : Keeps L H H2 := (Same.keeps (Same.new hL)).trans (Same.keeps e2)
    refine ⟨L, _, _, rfl, rfl, e2 _ _ upd_same, (by show 4 < sizeLine; decide), ?_⟩
    have hL1 : upd H2 L (.lst ([V.str "kind", V.str ("arms " ++ tI nn), V.str ("modulus " ++ tI mm), V.str ("handles " ++ tI kd.h)] ++ [V.str (rimLine kd.rs)])) L = some (.lst ([V.str "kind", V.str ("arms " ++ tI nn), V.str ("modulus " ++ tI mm), V.str ("handles " ++ tI kd.h)] ++ [V.str (rimLine kd.rs)])) := upd_same
    refine ⟨_, rfl, rfl, _, rfl, ?_⟩
    rw [decI]
    by_cases h1 : kd.h = 1
    · obtain ⟨i, em, hi⟩ := ok.m1 h1
      rw [decide_eq_true h1]
      refine iteT ?_
      refine ⟨_, rfl, .inl ⟨rfl, _, SqL.of hL1⟩, ?_⟩
      refine rd_fj (a := "measure ") (i := i) (by decide) hi (fun R r => ⟨_, by rw [em]; rfl, r⟩) ?_
      refine ⟨L, _, _, rfl, rfl, hL1, (by show 5 < sizeLine; decide), ?_⟩
      refine ⟨_, rfl, _, _, rfl, rfl, _, rfl, ?_⟩
      rw [decide_eq_false (by omega)]
      refine iteF ?_
      refine ⟨_, rfl, .inl ⟨rfl, _, SqL.of upd_same⟩, L, _, _, rfl, rfl, upd_same, small1000' (by simp), ?_⟩
      refine ⟨⟨_, rfl⟩, _, rfl, "\n", L, kLines nn mm kd, rfl, rfl, .inl (SqL.of ?_), kl_sum' ok, _, _, rfl, rfl, ?_, ?_⟩
      · rw [upd_same]
        unfold kLines
        rw [if_pos h1, if_neg (by omega), em]
        rfl
      · rw [tj]
        exact kl_len ok
      · rw [tj]
        exact q _ (Keeps.same (((kp.trans Keeps.upd).trans Keeps.upd).trans Keeps.upd) hL)
    · rw [decide_eq_false h1]
      refine iteF ?_
      by_cases h2 : 2 ≤ kd.h
      · obtain ⟨i, em, hi⟩ := ok.s2 h2
        refine ⟨_, rfl, _, _, rfl, rfl, _, rfl, ?_⟩
        rw [decide_eq_true h2]
        refine iteT ?_
        refine ⟨_, rfl, .inl ⟨rfl, _, SqL.of hL1⟩, ?_⟩
        refine rd_fj (a := "share ") (i := i) (by decide) hi (fun R r => ⟨_, by rw [em]; rfl, r⟩) ?_
        refine ⟨L, _, _, rfl, rfl, hL1, (by show 5 < sizeLine; decide), ?_⟩
        refine ⟨_, rfl, .inl ⟨rfl, _, SqL.of upd_same⟩, ?_⟩
        refine ⟨_, rfl, e_len (n := 100) (by decide) (by decide), _, rfl, kd.b, rfl, .inl ⟨bw kd.b, rfl, Nat.le_trans (bw_len _) (by decide), _, rfl, fj_len (n := 100) (by decide) (bw_len _) (by decide), ?_⟩⟩
        refine ⟨L, _, _, rfl, rfl, upd_same, (by show 6 < sizeLine; decide), ?_⟩
        refine ⟨_, rfl, .inl ⟨rfl, _, SqL.of upd_same⟩, L, _, _, rfl, rfl, upd_same, small1000' (by simp), ?_⟩
        refine ⟨⟨_, rfl⟩, _, rfl, "\n", L, kLines nn mm kd, rfl, rfl, .inl (SqL.of ?_), kl_sum' ok, _, _, rfl, rfl, ?_, ?_⟩
        · rw [upd_same]
          unfold kLines
          rw [if_neg h1, if_pos h2, em]
          rw [Str.empty_append]
          rfl
        · rw [tj]
          exact kl_len ok
        · rw [tj]
          exact q _ (Keeps.same ((((kp.trans Keeps.upd).trans Keeps.upd).trans Keeps.upd).trans Keeps.upd) hL)
      · refine ⟨_, rfl, _, _, rfl, rfl, _, rfl, ?_⟩
        rw [decide_eq_false h2]
        refine iteF ?_
        refine ⟨_, rfl, .inl ⟨rfl, _, SqL.of hL1⟩, L, _, _, rfl, rfl, hL1, small1000' (by simp), ?_⟩
        refine ⟨⟨_, rfl⟩, _, rfl, "\n", L, kLines nn mm kd, rfl, rfl, .inl (SqL.of ?_), kl_sum' ok, _, _, rfl, rfl, ?_, ?_⟩
        · rw [upd_same]
          unfold kLines
          rw [if_neg h1, if_neg h2]
          rfl
        · rw [tj]
          exact kl_len ok
        · rw [tj]
          exact q _ (Keeps.same ((kp.trans Keeps.upd).trans Keeps.upd) hL)

def spKindText (K : PySem.W.Frag) (CB CK : Addr) : Sp := fun vs H Q _ => ∃ (x : Addr) (nn mm : Int) (kd : Kd), vs = [.ref x] ∧ IsKind CB CK K H x nn mm kd ∧ TxtOk nn mm kd ∧ ∀ H', Same H H' → Q (.str (kTxt nn mm kd)) H'
theorem ok_kind_text_m {CB CK : Addr} (T : Tx mg) (B : KindC K CK) (C_kind_text : Cal P w K mg base k "kind_text" ["book", "counts"] (spKText K CB)) (F : Fun K "text" "Kind.text" s_Kind_text f fd) : FnOk P w K mg base CX0 (k + 1) f fd ["self"] (spKindText K CB CK) := by
  refine F.ok sc_Kind_text (fun vs H Q E h => ?_) (fun cdv A outer s H vs Q E hr h => ?_)
  · obtain ⟨_, _, _, _, rfl, _⟩ := h
    rfl
  · obtain ⟨x, nn, mm, kd, rfl, hk, ok, q⟩ := h
    obtain ⟨dx, p, t, hx, hb, ht⟩ := hk.ex
    refine ⟨_, (pss_one (ps_ret (pe_u C_kind_text hr (pa_cons (pe_fld (pv 0) rfl) (pa_cons (pe_tup (pa_cons (pe_fld (pv 0) rfl) (pa_cons (pe_fld (pv 0) rfl) (pa_cons (pe_fld (pv 0) rfl) (pa_cons (pe_fld (pv 0) rfl) (pa_cons (pe_fld (pv 0) rfl) pa_nil)))))) pa_nil))))), ?_⟩
    refine ⟨_, rfl, x, CK, dx, _, _, rfl, hx, B.cl, B.n1, kf_book .., ?_⟩
    refine ⟨_, rfl, x, CK, dx, _, _, rfl, hx, B.cl, B.n2, kf_handles .., ?_⟩
    refine ⟨_, rfl, x, CK, dx, _, _, rfl, hx, B.cl, B.n3, kf_rims .., ?_⟩
    refine ⟨_, rfl, x, CK, dx, _, _, rfl, hx, B.cl, B.n4, kf_measure .., ?_⟩
    refine ⟨_, rfl, x, CK, dx, _, _, rfl, hx, B.cl, B.n5, kf_share .., ?_⟩
    refine ⟨_, rfl, x, CK, dx, _, _, rfl, hx, B.cl, B.n6, kf_balance .., ?_⟩
    refine ⟨(by show 5 ≤ sizeLine; decide), fun c hc => ?_⟩
    refine ⟨p, c, t, nn, mm, kd, rfl, hb.same (Same.new hc), upd_same, Same.new hc _ _ ht, ok, fun H' e => ?_⟩
    exact q _ ((Same.new hc).trans e)
end
end C53
set_option Elab.async false
set_option linter.all false
set_option maxRecDepth 100000
set_option maxHeartbeats 1000000
namespace C53
open PySem PySem.Spec PyProof.Rows L2 Ex
local macro_rules | `(tactic| walk_at "rd") => `(tactic| repeat (first | refine ⟨_, rfl, ?_⟩ | refine ⟨_, _, rfl, rfl, ?_⟩ | refine ⟨rfl, ?_⟩))
local macro_rules | `(tactic| walk_at "red") => `(tactic| dsimp only [tNext, tSeq, tIfS, tB, tCB, tCons, tNil, tRet, tAsg, tTest])
local macro_rules | `(tactic| walk_at "it") => `(tactic| repeat (first | refine iteT ?_ | refine iteF ?_))
abbrev s_divisors_of : Stmt := topS 46
abbrev N_divisors_of : List Str := ["number", "low", "high", "trial"]
theorem sc_divisors_of : FnScope N_divisors_of ["number"] (defScope s_divisors_of) := ⟨rfl, rfl, rfl, by decide +kernel, rfl, by decide +kernel, by decide +kernel⟩
abbrev s_balances_for : Stmt := topS 48
abbrev N_balances_for : List Str := ["book", "rims", "share"]
theorem sc_balances_for : FnScope N_balances_for ["book", "rims", "share"] (defScope s_balances_for) := ⟨rfl, rfl, rfl, by decide +kernel, rfl, by decide +kernel, by decide +kernel⟩
abbrev s_is_endless : Stmt := topS 50
abbrev N_is_endless : List Str := ["book", "handles", "rims", "rim"]
theorem sc_is_endless : FnScope N_is_endless ["book", "handles", "rims"] (defScope s_is_endless) := ⟨rfl, rfl, rfl, by decide +kernel, rfl, by decide +kernel, by decide +kernel⟩
theorem Same.nn {H H' : Hp} {a : Addr} (e : Same H H') (h : H' a = none) : H a = none := by
  rcases q : H a with _ | o
  · rfl
  · rw [e _ _ q] at h
    cases h
def vN (d : Nat) : V := V.int (d : Int)
section
variable {P : Program} {w : World} {K : PySem.W.Frag} {mg : Str → Option Value} {base : Heap} {k : Nat} {f : Addr} {fd : FuncData}
def spDivs : Sp := fun vs H Q _ => ∃ n : Nat, vs = [.int (n : Int)] ∧ 0 < n ∧ n ≤ 1000000 ∧ ∀ L H', Same H H' → H L = none → H' L = some (.lst ((dv n n).map vN)) → Q (.ref L) H'
theorem dv_len (n m : Nat) : (dv n m).length ≤ m := Nat.le_trans (List.length_filter_le _ _) (by rw [List.length_range']; exact Nat.le_refl _)
theorem dh_len (n m : Nat) : (dh n m).length ≤ m := by
  unfold dh
  rw [List.length_map]
  exact Nat.le_trans (List.length_filter_le _ _) (by rw [List.length_range']; exact Nat.le_refl _)
theorem ok_divisors_of (T : Tx mg) (F : Fun K "divisors_of" "divisors_of" s_divisors_of f fd) : FnOk P w K mg base CX0 (k + 1) f fd ["number"] spDivs := by
  refine F.ok sc_divisors_of (fun vs H Q E h => ?_) (fun cdv A outer s H vs Q E hr h => ?_)
  · obtain ⟨n, rfl, _⟩ := h
    rfl
  · obtain ⟨n, rfl, hn, hn2, q⟩ := h
    refine ⟨_, PSs.nox (pss_cons (ps_set (i := 1) sc_divisors_of.nd rfl (.inl rfl) (pe_lst pa_nil))
    (pss_cons (ps_set (i := 2) sc_divisors_of.nd rfl (.inl rfl) (pe_lst pa_nil))
    (pss_cons (ps_set (i := 3) sc_divisors_of.nd rfl (.inl rfl) pe_int)
    (pss_cons (ps_while PassesOwn.never (pt_cmpR op_le (pe_op op_mul (pv 3) (pv 3)) (pv 0) (nomark _))
      (pss_cons (ps_if (pt_cmpR op_eq (pe_op op_modP (pv 0) (pv 3)) pe_int (nomark _)) (pss_cons (ps_expr (pe_bm PySem.F.plainAttrs_list PySem.F.slot_list_append PySem.F.type_list_append mt_append (pv 1) (pa_cons (pv 3) pa_nil)))
    (pss_one (ps_if (pt_cmpR op_lt (pe_op op_mul (pv 3) (pv 3)) (pv 0) (nomark _)) (pss_one (ps_expr (pe_bm PySem.F.plainAttrs_list PySem.F.slot_list_append PySem.F.type_list_append mt_append (pv 2) (pa_cons (pe_op op_fdivP (pv 0) (pv 3)) pa_nil)))) pss_nil))) pss_nil)
    (pss_one (ps_aug (i := 3) sc_divisors_of.nd rfl (.inl rfl) pe_int ip_add))))
    (pss_one (ps_ret (pe_op op_cat (pv 1) (pe_revL (pv 2))))))))), ?_⟩
    refine ⟨(by show 0 ≤ sizeLine; decide), fun A1 hA1 => ?_⟩
    refine ⟨(by show 0 ≤ sizeLine; decide), fun A2 hA2 => ?_⟩
    have ne12 : A1 ≠ A2 := fun e => by
      rw [← e, upd_same] at hA2
      cases hA2
    refine while_by (fun σ H' => ∃ m : Nat, σ = [some (V.int (n : Int)), some (V.ref A1), some (V.ref A2), some (V.int ((m + 1 : Nat) : Int))] ∧ m * m ≤ n ∧ Same H H' ∧ H' A1 = some (.lst ((dv n m).map vN)) ∧ H' A2 = some (.lst ((dh n m).map vN)))
      (fun σ H' => match σ with | [_, _, _, some (V.int t)] => n + 1 - t.toNat | _ => 0) ?_ ?_ ?_
    · refine ⟨0, rfl, Nat.zero_le _, (Same.new hA1).trans (Same.new hA2), ?_, upd_same⟩
      rw [upd_ne ne12]
      exact upd_same
    · rintro σ H1 ⟨m, rfl, hm, e1, l1, l2⟩
      have mn : m ≤ n := Nat.le_trans (Nat.le_mul_self m) hm
      have mb : m ≤ 1000 := by
        rcases Nat.lt_or_ge 1000 m with h | h
        · have := Nat.mul_le_mul (Nat.succ_le_of_lt h) (Nat.succ_le_of_lt h)
          omega
        · exact h
      refine ⟨_, rfl, _, rfl, _, _, rfl, rfl, .inl ⟨by omega, by omega⟩, _, rfl, _, _, rfl, rfl, _, rfl, ?_⟩
      by_cases hc : (m + 1) * (m + 1) ≤ n
      · rw [show decide ((((m + 1 : Nat) : Int)) * ((m + 1 : Nat) : Int) ≤ (n : Int)) = true from decide_eq_true (by rw [← Int.natCast_mul]; exact Int.ofNat_le.mpr hc)]
        refine iteT ?_
        have mn1 : m + 1 ≤ n := Nat.le_trans (Nat.le_mul_self (m + 1)) hc
        refine ⟨_, rfl, _, rfl, _, _, rfl, rfl, (show (0 : Int) < ((m + 1 : Nat) : Int) by omega), rfl, _, rfl, ?_⟩
        rw [decI, show decide (((n : Int)) % ((m + 1 : Nat) : Int) = 0) = decide (n % (m + 1) = 0) by rw [← Int.natCast_emod, decide_eq_decide]; exact Int.ofNat_eq_zero]
        have fin : ∀ H2, Same H H2 → H2 A1 = some (.lst ((dv n (m + 1)).map vN)) → H2 A2 = some (.lst ((dh n (m + 1)).map vN)) →
            (∃ m' : Nat, [some (V.int (n : Int)), some (V.ref A1), some (V.ref A2), some (V.int (((m + 1 : Nat) : Int) + 1))] = [some (V.int (n : Int)), some (V.ref A1), some (V.ref A2), some (V.int ((m' + 1 : Nat) : Int))] ∧ m' * m' ≤ n ∧ Same H H2 ∧ H2 A1 = some (.lst ((dv n m').map vN)) ∧ H2 A2 = some (.lst ((dh n m').map vN))) ∧
              n + 1 - (((m + 1 : Nat) : Int) + 1).toNat < n + 1 - (((m + 1 : Nat) : Int)).toNat := fun H2 a b c => ⟨⟨m + 1, rfl, hc, a, b, c⟩, by omega⟩
        by_cases hd : n % (m + 1) = 0
        · rw [decide_eq_true hd]
          refine iteT ?_
          have d1 : (dv n (m + 1)).map vN = (dv n m).map vN ++ [V.int ((m + 1 : Nat) : Int)] := by
            rw [dv_succ, if_pos hd, List.map_append]
            rfl
          refine ⟨_, rfl, .inl ⟨rfl, _, SqL.of l1⟩, _, rfl, A1, _, _, rfl, rfl, l1, ?_, ?_⟩
          · rw [List.length_map]
            exact Nat.lt_of_le_of_lt (dv_len n m) (small1000 mb)
          have k1 : Same H (upd H1 A1 (.lst ((dv n m).map vN ++ [V.int ((m + 1 : Nat) : Int)]))) := (Keeps.trans (Same.keeps e1) Keeps.upd).same hA1
          refine ⟨_, rfl, _, rfl, _, _, rfl, rfl, .inl ⟨by omega, by omega⟩, _, rfl, _, _, rfl, rfl, _, rfl, ?_⟩
          by_cases hl : (m + 1) * (m + 1) < n
          · rw [show decide ((((m + 1 : Nat) : Int)) * ((m + 1 : Nat) : Int) < (n : Int)) = true from decide_eq_true (by rw [← Int.natCast_mul]; exact Int.ofNat_lt.mpr hl)]
            refine iteT ?_
            have l2' : upd H1 A1 (.lst ((dv n m).map vN ++ [V.int ((m + 1 : Nat) : Int)])) A2 = some (.lst ((dh n m).map vN)) := by
              rw [upd_ne ne12.symm]
              exact l2
            refine ⟨_, rfl, .inl ⟨rfl, _, SqL.of l2'⟩, _, rfl, _, rfl, _, _, rfl, rfl, ⟨(show (0 : Int) < ((m + 1 : Nat) : Int) by omega), by omega⟩, A2, _, _, rfl, rfl, l2', ?_, ?_⟩
            · rw [List.length_map]
              exact Nat.lt_of_le_of_lt (dh_len n m) (small1000 mb)
            refine ⟨_, rfl, _, _, rfl, rfl, ?_⟩
            refine fin _ (((Same.keeps k1).trans Keeps.upd).same (x := A2) ?_) ?_ ?_
            · rcases h : H A2 with _ | o
              · rfl
              · have := Same.new (o := .lst []) hA1 _ _ h
                rw [hA2] at this
                cases this
            · rw [upd_ne ne12, upd_same, d1]
            · rw [upd_same, dh_succ, if_pos ⟨hd, hl⟩, List.map_append]
              rfl
          · rw [show decide ((((m + 1 : Nat) : Int)) * ((m + 1 : Nat) : Int) < (n : Int)) = false from decide_eq_false (by rw [← Int.natCast_mul]; exact fun z => hl (Int.ofNat_lt.mp z))]
            refine iteF ?_
            refine ⟨_, rfl, _, _, rfl, rfl, ?_⟩
            refine fin _ k1 ?_ ?_
            · rw [upd_same, d1]
            · rw [upd_ne ne12.symm, dh_succ, if_neg (fun z => hl z.2), List.append_nil]
              exact l2
        · rw [decide_eq_false hd]
          refine iteF ?_
          refine ⟨_, rfl, _, _, rfl, rfl, ?_⟩
          refine fin _ e1 ?_ ?_
          · rw [dv_succ, if_neg hd, List.append_nil]
            exact l1
          · rw [dh_succ, if_neg (fun z => hd z.1), List.append_nil]
            exact l2
      · rw [show decide ((((m + 1 : Nat) : Int)) * ((m + 1 : Nat) : Int) ≤ (n : Int)) = false from decide_eq_false (by rw [← Int.natCast_mul]; exact fun z => hc (Int.ofNat_le.mp z))]
        refine iteF ?_
        refine ⟨_, rfl, _, rfl, A2, _, rfl, SqL.of l2, fun R hR => ?_⟩
        refine ⟨A1, R, _, _, rfl, rfl, Same.new hR _ _ l1, upd_same, ?_, fun S hS => ?_⟩
        · rw [List.length_reverse, List.length_map, List.length_map]
          have h1 := dv_len n m
          have h2 := dh_len n m
          exact Nat.le_trans (show _ ≤ 2000 by omega) (by decide)
        refine q S _ (e1.trans ((Same.new hR).trans (Same.new hS))) (Same.nn (e1.trans (Same.new hR)) hS) ?_
        rw [upd_same, ← List.map_reverse, ← List.map_append, div_all hn hm (by omega)]
    · intro σ H Q Q' hq h
      obtain ⟨a1, b1, a2, b2, i, j, r1, r2, hc, a3, b3, i2, j2, r3, r4, c, ec, h⟩ := h
      exact ⟨a1, b1, a2, b2, i, j, r1, r2, hc, a3, b3, i2, j2, r3, r4, c, ec, hq _ _ h⟩
/-! ### balances_for, is_endless -/

def spBalFor (K : PySem.W.Frag) (C : Addr) : Sp := fun vs H Q _ => ∃ (p a : Addr) (nn mm s : Int) (rs : List Int), vs = [.ref p, .ref a, .int s] ∧ IsBook C H p nn mm ∧ SqA K H a (rs.map V.int) ∧ rs.length ≤ 1000 ∧ (0 < s ∧ s < 1073741824) ∧ ∀ L H', Same H H' → H L = none → H' L = some (.lst ((balFor nn mm rs s).map optV)) → Q (.ref L) H'
theorem ok_balances_for {C : Addr} (C_has_balance : Cal P w K mg base k "has_balance" ["book", "share"] (spHasBal C)) (C_some_odd_rim : Cal P w K mg base k "some_odd_rim" ["book", "rims", "share"] (spOddRim K C)) (F : Fun K "balances_for" "balances_for" s_balances_for f fd) :
    FnOk P w K mg base CX0 (k + 1) f fd ["book", "rims", "share"] (spBalFor K C) := by
  refine F.ok sc_balances_for (fun vs H Q E h => ?_) (fun cdv A outer s H vs Q E hr h => ?_)
  · obtain ⟨_, _, _, _, _, _, rfl, _⟩ := h
    rfl
  · obtain ⟨p, a, nn, mm, sh, rs, rfl, hb, hS, hl, hs, q⟩ := h
    refine ⟨_, (pss_cons (ps_if (pt_not (pt_val (pe_u C_has_balance hr (pa_cons (pv 0) (pa_cons (pv 2) pa_nil))))) (pss_one (ps_ret (pe_lst (pa_cons pe_non pa_nil)))) pss_nil)
    (pss_cons (ps_if (pt_val (pe_u C_some_odd_rim hr (pa_cons (pv 0) (pa_cons (pv 1) (pa_cons (pv 2) pa_nil))))) (pss_one (ps_ret (pe_lst (pa_cons pe_int pa_nil)))) pss_nil)
    (pss_one (ps_ret (pe_lst (pa_cons (pe_un un_neg pe_int) (pa_cons pe_int pa_nil))))))), ?_⟩
    refine ⟨_, rfl, _, rfl, p, nn, mm, sh, rfl, hb, hs, _, rfl, ?_⟩
    unfold balFor at q
    cases eb : hasBal nn mm sh with
    | false =>
      rw [eb] at q
      refine iteT ?_
      exact ⟨(by show 1 ≤ sizeLine; decide), fun L hL => q L _ (Same.new hL) hL upd_same⟩
    | true =>
      rw [eb] at q
      refine iteF ?_
      refine ⟨_, rfl, _, rfl, _, rfl, p, a, nn, mm, sh, rs, rfl, hb, hS, hl, hs, fun H1 e1 => ⟨_, rfl, ?_⟩⟩
      have nl : ∀ L, H1 L = none → H L = none := fun L hL => by
        rcases h : H L with _ | o
        · rfl
        · rw [e1 _ _ h] at hL
          cases hL
      cases eo : oddRim nn rs sh with
      | true =>
        rw [eo] at q
        refine iteT ?_
        exact ⟨(by show 1 ≤ sizeLine; decide), fun L hL => q L _ (e1.trans (Same.new hL)) (nl L hL) upd_same⟩
      | false =>
        rw [eo] at q
        refine iteF ?_
        exact ⟨1, rfl, (by show 2 ≤ sizeLine; decide), fun L hL => q L _ (e1.trans (Same.new hL)) (nl L hL) upd_same⟩
def endl (nn mm h : Int) (rs : List Int) : Bool := decide (mm = 0) && (decide (h = 1) && rs.all fun r => decide (r = -nn))
def spEndl (K : PySem.W.Frag) (C : Addr) : Sp := fun vs H Q _ => ∃ (p a : Addr) (nn mm h : Int) (rs : List Int), vs = [.ref p, .int h, .ref a] ∧ IsBook C H p nn mm ∧ SqA K H a (rs.map V.int) ∧ rs.length ≤ 1000 ∧ ∀ H', Same H H' → Q (.bl (endl nn mm h rs)) H'
theorem ok_is_endless {C : Addr} (T : Tx mg) (B : BookC K C) (F : Fun K "is_endless" "is_endless" s_is_endless f fd) : FnOk P w K mg base CX0 (k + 1) f fd ["book", "handles", "rims"] (spEndl K C) := by
  refine F.ok sc_is_endless (fun vs H Q E h => ?_) (fun cdv A outer s H vs Q E hr h => ?_)
  · obtain ⟨_, _, _, _, _, _, rfl, _⟩ := h
    rfl
  · obtain ⟨p, a, nn, mm, hh, rs, rfl, hb, hS, hl, q⟩ := h
    refine ⟨_, (pss_one (ps_ret (pe_and (pe_cmpR op_eq (pe_fld (pv 0) rfl) pe_int (nomark _)) (pe_and (pe_cmpR op_eq (pv 1) pe_int (nomark _)) (pe_one (pe_callB (cr_all rfl) (by rfl) T.b_all (by decide +kernel) (pa_cons (pe_lc (own := [("rim", 3)]) (g := gName 3) rfl sc_is_endless.nd (pi_seq (pv 2)) (blkOk_by (own := [("rim", 3)]) (N := N_is_endless) (sc := defScope s_is_endless) (by decide +kernel)) (fun _ _ _ _ _ => pg_name (i := 3) sc_is_endless.nd rfl (.inl rfl)) (fun _ _ _ _ _ => pts_nil) (fun _ _ _ _ _ => (pe_cmpR op_eq (pv 3) (pe_un un_neg (pe_fdK (K := K) rfl (pv 0) rfl)) (nomark _)))) pa_nil))))))), ?_⟩
    unfold endl at q
    refine rd_modulus B hb (fun R r => ⟨_, rfl, r⟩) ?_
    refine ⟨rfl, _, rfl, ?_⟩
    rw [decI]
    cases e1 : decide (mm = 0) with
    | false =>
      rw [e1] at q
      exact iteF (q H (Same.refl H))
    | true =>
      rw [e1] at q
      refine iteT ?_
      refine ⟨_, rfl, rfl, _, rfl, ?_⟩
      rw [decI]
      cases e2 : decide (hh = 1) with
      | false =>
        rw [e2] at q
        exact iteF (q H (Same.refl H))
      | true =>
        rw [e2] at q
        refine iteT ?_
        walk_at "red"
        refine tlc_pure (onI fun r => .bl (decide (r = -nn))) (fun R r => ⟨_, rfl, r⟩) hS (len1000 hl) (fun _ => rfl) (fun x hx H' e Q' q' => ?_) fun D hD => ?_
        · obtain ⟨r, _, rfl⟩ := List.mem_map.mp hx
          refine ⟨_, rfl, ?_⟩
          refine rd_arms B (hb.same e) (fun R r => ⟨_, rfl, r⟩) ?_
          refine ⟨nn, rfl, rfl, ?_⟩
          rw [decI]
          exact q'
        · rw [onI_map]
          refine ⟨D, rs.map fun r => decide (r = -nn), rfl, SqL.of (by rw [upd_same, List.map_map]; rfl), ?_⟩
          rw [all_map]
          exact q _ (Same.new hD)
end
end C53
set_option Elab.async false
set_option linter.all false
set_option maxRecDepth 100000
set_option maxHeartbeats 1000000
namespace C53
open PySem PySem.Spec PyProof.Rows L2 Ex
abbrev psKind : List Str := ["self", "book", "handles", "rims", "measure", "share", "balance"]
abbrev FunKind (K : PySem.W.Frag) (f : Addr) (fd : FuncData) : Prop := FunD K "__init__" "Kind.__init__" (defArgs s_Kind_init) (defBody s_Kind_init) (defScope s_Kind_init) [] [("measure", .non), ("share", .non), ("balance", .non)] f fd
/-- the class Kind, known by what making does -/
structure KMade (P : Program) (w : World) (K : PySem.W.Frag) (mg : Str → Option Value) (base : Heap) (k : Nat) (CB CK : Addr) : Prop where
  ex : ∃ f fd, mg "Kind" = some (.ref CK) ∧ Mk K CK f ∧ FnOk P w K mg base CX0 k f fd psKind (spKindInit K CB CK) ∧ (∃ ds, Vals [V.non, V.non, V.non] ds ∧ Binds K fd psKind ds) ∧
    (∃ mv : List Value, KBn K fd psKind 4 ["measure"] (fun us ws => us ++ (ws ++ mv)) (fun vs zs => vs ++ (zs ++ [V.non, V.non]))) ∧ (∃ mv : List Value, KBn K fd psKind 4 ["share", "balance"] (fun us ws => us ++ (mv ++ ws)) (fun vs zs => vs ++ ([V.non] ++ zs)))
section
variable {K : PySem.W.Frag} {f : Addr} {fd : FuncData}
theorem kind_b0 (F : FunKind K f fd) : ∃ ds, Vals [V.non, V.non, V.non] ds ∧ Binds K fd psKind ds := by
  refine F.binds0 (ps := psKind) 4 (by decide) rfl fun D doc pm an cdv ct us ks hl hk => ?_
  match us, ks, hl, hk with
  | [u1, u2, u3, u4], [k1, k2, k3], _, _ => exact ⟨_, _, _, _, _, _, rfl, rfl, _, _, _, _, _, _, rfl, rfl, _, _, _, _, _, _, rfl, rfl, rfl⟩
theorem kind_bM (F : FunKind K f fd) : ∃ mv : List Value, KBn K fd psKind 4 ["measure"] (fun us ws => us ++ (ws ++ mv)) (fun vs zs => vs ++ (zs ++ [V.non, V.non])) := by
  refine F.kbinds0 (ps := psKind) 4 ["measure"] [("share", .non), ("balance", .non)] (fun us mv ws => us ++ (ws ++ mv)) (by decide) (fun q hq => List.mem_cons_of_mem _ hq) (fun a b c => a.append (c.append b)) fun D doc pm an cdv ct us mv ws hl hm hw => ?_
  match us, mv, ws, hl, hm, hw with
  | [u1, u2, u3, u4], [k1, k2], [w1], _, _, _ => exact ⟨_, _, _, _, _, _, rfl, rfl, _, _, _, _, _, _, rfl, rfl, rfl⟩
theorem kind_bS (F : FunKind K f fd) : ∃ mv : List Value, KBn K fd psKind 4 ["share", "balance"] (fun us ws => us ++ (mv ++ ws)) (fun vs zs => vs ++ ([V.non] ++ zs)) := by
  refine F.kbinds0 (ps := psKind) 4 ["share", "balance"] [("measure", .non)] (fun us mv ws => us ++ (mv ++ ws)) (by decide) (fun q hq => ?_) (fun a b c => a.append (b.append c)) fun D doc pm an cdv ct us mv ws hl hm hw => ?_
  · obtain rfl := List.mem_singleton.mp hq
    exact List.mem_cons_self ..
  match us, mv, ws, hl, hm, hw with
  | [u1, u2, u3, u4], [k1], [w1, w2], _, _, _ => exact ⟨_, _, _, _, _, _, rfl, rfl, rfl⟩
end
section
variable {X : Cx} {k : Nat} {CB CK : Addr} {p pos : Pos} {e : Expr} {es : List Expr} {kws : List Keyword} {t tk : TA}
theorem pe_kind0 {K : PySem.W.Frag} (hK : X.K = K) (C : KMade X.prog X.w X.K X.mg X.base k CB CK) (hr : Room (k + 1) X.A) (ha : PA X (e :: es) t) (hg : Gl X "Kind" := by rfl)
    (he : starEach (e :: es) X.env = (false, eval e X.env) :: starEach es X.env := by rfl) (hpl : (backTo pos (starEach es X.env)).any (·.1) = false := by rfl) :
    PE X (.Call (.Name "Kind" p) (e :: es) [] pos) (tMake CK (spKindInit K CB CK) [V.non, V.non, V.non] E0 t) := by
  subst hK
  obtain ⟨f, fd, hm, M, F, ⟨ds, hd, hb⟩, _⟩ := C.ex
  exact pe_make M F hr hg hm hb hd pass0 ha (by decide) he hpl
theorem pe_kindM {K : PySem.W.Frag} (hK : X.K = K) (C : KMade X.prog X.w X.K X.mg X.base k CB CK) (hr : Room (k + 1) X.A) (ha : PA X (e :: es) t) (hkw : PK X kws tk) (hg : Gl X "Kind" := by rfl)
    (hall : (backToKw pos (keywordEach kws X.env)).all (·.1.isSome) = true := by rfl) (hks : (backToKw pos (keywordEach kws X.env)).filterMap (·.1) = (["measure"] : List Str) := by rfl)
    (he : starEach (e :: es) X.env = (false, eval e X.env) :: starEach es X.env := by rfl) (hpl : ((backTo pos (starEach (e :: es) X.env)).any (·.1) || (backToKw pos (keywordEach kws X.env)).any (·.1.isNone)) = false := by rfl) :
    PE X (.Call (.Name "Kind" p) (e :: es) kws pos) (tMakeK CK 3 1 (spKindInit K CB CK) (fun vs zs => vs ++ (zs ++ [V.non, V.non])) E0 t tk) := by
  subst hK
  obtain ⟨f, fd, hm, M, F, _, ⟨mv, hb⟩, _⟩ := C.ex
  exact pe_makeK (ks := ["measure"]) M F hr hg hm hb pass0 ha hkw hall hks (by decide) he hpl
theorem pe_kindS {K : PySem.W.Frag} (hK : X.K = K) (C : KMade X.prog X.w X.K X.mg X.base k CB CK) (hr : Room (k + 1) X.A) (ha : PA X (e :: es) t) (hkw : PK X kws tk) (hg : Gl X "Kind" := by rfl)
    (hall : (backToKw pos (keywordEach kws X.env)).all (·.1.isSome) = true := by rfl) (hks : (backToKw pos (keywordEach kws X.env)).filterMap (·.1) = (["share", "balance"] : List Str) := by rfl)
    (he : starEach (e :: es) X.env = (false, eval e X.env) :: starEach es X.env := by rfl) (hpl : ((backTo pos (starEach (e :: es) X.env)).any (·.1) || (backToKw pos (keywordEach kws X.env)).any (·.1.isNone)) = false := by rfl) :
    PE X (.Call (.Name "Kind" p) (e :: es) kws pos) (tMakeK CK 3 2 (spKindInit K CB CK) (fun vs zs => vs ++ ([V.non] ++ zs)) E0 t tk) := by
  subst hK
  obtain ⟨f, fd, hm, M, F, _, _, ⟨mv, hb⟩⟩ := C.ex
  exact pe_makeK (ks := ["share", "balance"]) M F hr hg hm hb pass0 ha hkw hall hks (by decide) he hpl
end
/-! ### lists of kinds -/
def AllK (CB CK : Addr) (K : PySem.W.Frag) (H : Hp) (nn mm : Int) : List Addr → List Kd → Prop
  | [], [] => True
  | x :: xs, kd :: ks => IsKind CB CK K H x nn mm kd ∧ AllK CB CK K H nn mm xs ks
  | _, _ => False
section
variable {CB CK : Addr} {K : PySem.W.Frag} {H H' : Hp} {nn mm : Int}
theorem AllK.imp (f : ∀ x kd, IsKind CB CK K H x nn mm kd → IsKind CB CK K H' x nn mm kd) : ∀ {xs : List Addr} {ks : List Kd}, AllK CB CK K H nn mm xs ks → AllK CB CK K H' nn mm xs ks
  | [], [], _ => trivial
  | x :: xs, kd :: ks, h => ⟨f _ _ h.1, AllK.imp f h.2⟩
  | [], _ :: _, h => h.elim
  | _ :: _, [], h => h.elim
theorem AllK.app : ∀ {xs ys : List Addr} {ks ls : List Kd}, AllK CB CK K H nn mm xs ks → AllK CB CK K H nn mm ys ls → AllK CB CK K H nn mm (xs ++ ys) (ks ++ ls)
  | [], _, [], _, _, h => h
  | x :: xs, _, kd :: ks, _, h, g => ⟨h.1, AllK.app h.2 g⟩
  | [], _, _ :: _, _, h, _ => h.elim
  | _ :: _, _, [], _, h, _ => h.elim
theorem AllK.len : ∀ {xs : List Addr} {ks : List Kd}, AllK CB CK K H nn mm xs ks → xs.length = ks.length
  | [], [], _ => rfl
  | x :: xs, kd :: ks, h => congrArg Nat.succ (AllK.len h.2)
  | [], _ :: _, h => h.elim
  | _ :: _, [], h => h.elim
theorem AllK.take : ∀ {xs : List Addr} {ks : List Kd} (n : Nat), AllK CB CK K H nn mm xs ks → AllK CB CK K H nn mm (xs.take n) (ks.take n)
  | [], [], n, _ => by rw [List.take_nil, List.take_nil]; trivial
  | x :: xs, kd :: ks, 0, _ => trivial
  | x :: xs, kd :: ks, n + 1, h => ⟨h.1, AllK.take n h.2⟩
  | [], _ :: _, _, h => h.elim
  | _ :: _, [], _, h => h.elim
theorem AllK.get : ∀ {xs : List Addr} {ks : List Kd} {i : Nat} {x : Addr}, AllK CB CK K H nn mm xs ks → xs[i]? = some x → ∃ kd, ks[i]? = some kd ∧ IsKind CB CK K H x nn mm kd
  | x :: xs, kd :: ks, 0, y, h, e => ⟨kd, rfl, by
    obtain rfl : x = y := Option.some.inj e
    exact h.1⟩
  | x :: xs, kd :: ks, i + 1, y, h, e => AllK.get (i := i) h.2 e
  | [], [], i, y, _, e => by simp at e
  | [], _ :: _, _, _, h, _ => h.elim
  | _ :: _, [], _, _, h, _ => h.elim
theorem IsKind.keep {x D : Addr} {ys : List V} {kd : Kd} (hD : H D = some (.lst ys)) (e : Keeps D H H') (h : IsKind CB CK K H x nn mm kd) : IsKind CB CK K H' x nn mm kd := by
  obtain ⟨dx, p, t, h1, ⟨dp, h2⟩, h3⟩ := h.ex
  have a1 : x ≠ D := fun z => by subst z; rw [h1] at hD; cases hD
  have a2 : p ≠ D := fun z => by subst z; rw [h2] at hD; cases hD
  have a3 : t ≠ D := fun z => by subst z; rw [h3] at hD; cases hD
  exact ⟨dx, p, t, e _ _ a1 h1, ⟨dp, e _ _ a2 h2⟩, e _ _ a3 h3⟩
/-- [Kind(..) for x in xs] -/
theorem tlc_kinds {te tl : TE} {vs : List Nat} {σ : L2.St} {j : Nat} {xs : List V} {Q : VK} (kdf : V → Kd) (hl : ∀ R : VK, (∀ a H1, Same H H1 → SqA K H1 a xs → R (.ref a) H1) → tl σ H R) (hz : xs.length < sizeLine) (hw : ∀ x, wipe ((wipe σ vs).set j (some x)) vs = wipe σ vs)
    (hel : ∀ x ∈ xs, ∀ H1, Same H H1 → ∀ Q' : VK, (∀ y H2, Same H1 H2 → IsKind CB CK K H2 y nn mm (kdf x) → Q' (.ref y) H2) → te ((wipe σ vs).set j (some x)) H1 Q')
    (hd : ∀ D H2 ys, Same H H2 → H D = none → H2 D = some (.lst (ys.map V.ref)) → AllK CB CK K H2 nn mm ys (xs.map kdf) → Q (.ref D) H2) : tLc (iSeq K tl) (gName j) tYes te vs σ H Q := by
  refine hl _ fun a H1 e1 src => ⟨a, rfl, ?_⟩
  have nn1 : ∀ D, H1 D = none → H D = none := fun D h => by
    rcases q : H D with _ | o
    · rfl
    · rw [e1 _ _ q] at h
      cases h
  let Pv : Addr → Nat → Hp → Prop := fun D i H' => Keeps D H1 H' ∧ ∃ ys : List Addr, H' D = some (.lst (ys.map V.ref)) ∧ ys.length ≤ i ∧ AllK CB CK K H' nn mm ys ((xs.take i).map kdf)
  have p0 : ∀ D, H1 D = none → Pv D 0 (upd H1 D (.lst [])) := fun D hD => ⟨Keeps.upd, [], upd_same, Nat.le_refl _, trivial⟩
  have turn : ∀ D, H1 D = none → ∀ i x H', xs[i]? = some x → Pv D i H' → gName j x (wipe σ vs) H' fun σ2 H2 => wipe σ2 vs = wipe σ vs ∧ tYes σ2 H2 fun b H3 =>
      if b = true then te σ2 H3 fun y H4 => ∃ acc, H4 D = some (.lst acc) ∧ acc.length < sizeLine ∧ Pv D (i + 1) (upd H4 D (.lst (acc ++ [y]))) else Pv D (i + 1) H3 := by
    intro D hD i x H' hx ⟨k1, ys, h1, h2, h3⟩
    refine ⟨hw x, ?_⟩
    unfold tYes
    refine iteT ?_
    have hi : i < xs.length := by
      rcases Nat.lt_or_ge i xs.length with h | h
      · exact h
      · rw [List.getElem?_eq_none h] at hx
        cases hx
    refine hel x (List.mem_of_getElem? hx) _ (e1.trans (k1.same hD)) _ fun y H4 e4 hy => ⟨_, e4 _ _ h1, ?_, ?_⟩
    · rw [List.length_map]
      omega
    · refine ⟨(k1.trans (Same.keeps e4)).trans Keeps.upd, ys ++ [y], ?_, ?_, ?_⟩
      · rw [upd_same, List.map_append]
        rfl
      · rw [List.length_append]
        exact Nat.succ_le_succ h2
      · rw [List.take_add_one, hx, List.map_append]
        have g4 := e4 _ _ h1
        exact (h3.imp fun _ _ z => (z.same e4).keep g4 Keeps.upd).app ⟨hy.keep g4 Keeps.upd, trivial⟩
  have stop : ∀ D, H1 D = none → ∀ H', Pv D xs.length H' → Q (.ref D) H' := fun D hD H' ⟨k1, ys, h1, h2, h3⟩ => by
    rw [List.take_length] at h3
    exact hd D H' ys (e1.trans (k1.same hD)) (nn1 D hD) h1 h3
  rcases src with src | src
  · refine .inl ⟨⟨xs, src⟩, fun D hD => lc_list (K := K) (a := a) (xs := xs) (Pv D) (p0 D hD) (fun i H' _ e => (Keeps.same e.1 hD).seq src) (turn D hD) (stop D hD)⟩
  · refine .inr ⟨⟨xs, src⟩, fun D hD => lc_tup (K := K) (a := a) (xs := xs) (Pv D) (p0 D hD) (fun i H' _ e => ?_) (turn D hD) (stop D hD)⟩
    rcases src with h' | h'
    · rcases h' with h' | ⟨o, h'⟩
      · exact .inl (.inl (Keeps.same e.1 hD _ _ h'))
      · exact .inl (.inr ⟨o, Keeps.same e.1 hD _ _ h'⟩)
    · exact .inr h'
end
end C53
set_option Elab.async false
set_option linter.all false
set_option maxRecDepth 100000
set_option maxHeartbeats 2000000
namespace C53
open PySem PySem.Spec PyProof.Rows L2 Ex
local macro_rules | `(tactic| walk_at "rd") => `(tactic| repeat (first | refine ⟨_, rfl, ?_⟩ | refine ⟨_, _, rfl, rfl, ?_⟩ | refine ⟨rfl, ?_⟩))
local macro_rules | `(tactic| walk_at "red") => `(tactic| dsimp only [tNext, tSeq, tIfS, tB, tCB, tCons, tNil, tRet, tAsg, tTest])
local macro_rules | `(tactic| walk_at "it") => `(tactic| repeat (first | refine iteT ?_ | refine iteF ?_))
/-- for over a list or tuple that the head's expression makes -/
theorem for_G {K : PySem.W.Frag} {xs : List V} {g : TG} {tb : TS} {D : Ends} {σ : L2.St} {H : Hp} {tl : TE} (Src : Addr → Hp → Prop) (Pv : Addr → Hp → Nat → L2.St → Hp → Prop) (hl : ∀ R : VK, (∀ a H1, Src a H1 → R (.ref a) H1) → tl σ H R) (src : ∀ a H1, Src a H1 → SqA K H1 a xs)
    (h0 : ∀ a H1, Src a H1 → Pv a H1 0 σ H1) (hk : ∀ a H1, Src a H1 → ∀ i σ' H', Pv a H1 i σ' H' → ∀ x, H1 a = some x → H' a = some x)
    (hs : ∀ a H1, Src a H1 → ∀ i x σ H, xs[i]? = some x → Pv a H1 i σ H → g x σ H fun σ2 H2 => tb { D with nx := Pv a H1 (i + 1), ct := Pv a H1 (i + 1), bk := D.nx } σ2 H2) (hd : ∀ a H1, Src a H1 → ∀ σ H, Pv a H1 xs.length σ H → D.nx σ H) : tFor (iSeq K tl) g tb D σ H :=
  hl _ fun a H1 e => for_A (K := K) (a := a) (xs := xs) (tl := fun _ H R => R (.ref a) H) (Pv a H1) (fun R r => r) (src a H1 e) (h0 a H1 e) (hk a H1 e) (hs a H1 e) (hd a H1 e)
def mk1 (rs : List Int) (d : Nat) : Kd := ⟨1, rs, some (d : Int), none, none⟩
def mk2 (h : Int) (rs : List Int) (s : Nat) (b : Option Int) : Kd := ⟨h, rs, none, some (s : Int), b⟩
def kindsW (nn mm h : Int) (rs : List Int) : List Kd :=
  if sumOk nn mm h rs = true then
    (if h = 0 then [⟨0, rs, none, none, none⟩] else if h = 1 then (dv (gN (mm :: rs.map (· + nn))) (gN (mm :: rs.map (· + nn)))).map (mk1 rs)
      else (dv (gN (nn :: mm :: rs)) (gN (nn :: mm :: rs))).flatMap fun (s : Nat) => (balFor nn mm rs (s : Int)).map (mk2 h rs s)) else []
abbrev s_kinds_with : Stmt := topS 49
abbrev N_kinds_with : List Str := ["book", "handles", "rims", "shifts", "most", "found", "share", "balance", "rim", "measure"]
theorem sc_kinds_with : FnScope N_kinds_with ["book", "handles", "rims"] (defScope s_kinds_with) := ⟨rfl, rfl, rfl, by decide +kernel, rfl, by decide +kernel, by decide +kernel⟩
def kdI (rs : List Int) : V → Kd
  | .int i => ⟨1, rs, some i, none, none⟩
  | _ => ⟨1, rs, none, none, none⟩
theorem flat_len {f : Nat → List Kd} (h : ∀ s, (f s).length ≤ 2) : ∀ l : List Nat, (l.flatMap f).length ≤ 2 * l.length
  | [] => Nat.le_refl _
  | s :: r => by
    have := flat_len h r
    have := h s
    rw [List.flatMap_cons, List.length_append, List.length_cons]
    omega
theorem flat_take {f : Nat → List Kd} {l : List Nat} {i : Nat} {s : Nat} (h : l[i]? = some s) : (l.take (i + 1)).flatMap f = (l.take i).flatMap f ++ f s := by
  rw [List.take_add_one, h, List.flatMap_append]
  simp
theorem ne_dk {H : Hp} {a b C dx : Addr} {fs : List (Str × V)} {ys : List V} (h1 : H a = some (.ins C dx fs)) (h2 : H b = some (.lst ys)) : a ≠ b := fun e => by
  subst e
  rw [h1] at h2
  cases h2
theorem sqx_keep {K : PySem.W.Frag} {H H' : Hp} {a F : Addr} {xs : List V} (e : Keeps F H H') (n : a ≠ F) (h : SqX K H a xs) : SqX K H' a xs := by
  rcases h with h | h
  · exact .inl (e _ _ n h)
  · exact .inr (e _ _ n h)
section
variable {P : Program} {w : World} {K : PySem.W.Frag} {mg : Str → Option Value} {base : Heap} {k : Nat} {f : Addr} {fd : FuncData}
def spKindsW (K : PySem.W.Frag) (CB CK : Addr) : Sp := fun vs H Q _ => ∃ (p a : Addr) (nn mm h : Int) (rs : List Int), vs = [.ref p, .int h, .ref a] ∧ IsBook CB H p nn mm ∧ SqX K H a (rs.map V.int) ∧ rs.length ≤ 900 ∧ (-1000 < nn ∧ nn < 1000) ∧ 0 ≤ mm ∧ 0 ≤ h ∧ rimsOk mm rs = true ∧
  (h = 1 → sumOk nn mm h rs = true → 0 < gN (mm :: rs.map (· + nn)) ∧ gN (mm :: rs.map (· + nn)) ≤ 1000000) ∧ (0 < gN (nn :: mm :: rs) ∧ gN (nn :: mm :: rs) ≤ 1000000) ∧
  ∀ D H' ys, Same H H' → H D = none → H' D = some (.lst (ys.map V.ref)) → AllK CB CK K H' nn mm ys (kindsW nn mm h rs) → Q (.ref D) H'
/-- a kind made, as the makers' readings ask it -/
theorem made {CB CK : Addr} {H : Hp} {p a x dx : Addr} {nn mm h : Int} {rs : List Int} {m s b : Option Int} {Q : Hp → Prop} (hb : IsBook CB H p nn mm) (hS : SqX K H a (rs.map V.int)) (hl : rs.length ≤ 1000) (hn : -1000 < nn ∧ nn < 1000) (hm : 0 ≤ mm) (ok : KOk nn mm h rs m s b)
    (hx : H x = none) (hdx : H dx = none) (q : ∀ H2, Same H H2 → IsKind CB CK K H2 x nn mm ⟨h, rs, m, s, b⟩ → Q H2) :
    spKindInit K CB CK [.ref x, .ref p, .int h, .ref a, optV m, optV s, optV b] (upd (upd H dx (.own x)) x (.ins CK dx [])) (fun v H2 => v = .non ∧ Q H2) E0 := by
  have e1 : Same H (upd (upd H dx (.own x)) x (.ins CK dx [])) := fun a o e => by
    rw [upd_ne (ne_of_none e hx), upd_ne (ne_of_none e hdx)]
    exact e
  obtain ⟨dp, hp⟩ := hb
  refine ⟨x, p, a, dx, nn, mm, h, rs, m, s, b, rfl, upd_same, ⟨dp, e1 _ _ hp⟩, ne_of_none hp hx, hS.same e1, hl, hn, hm, ok, fun H' kp ik => ⟨rfl, q H' (fun a o e => kp a o (ne_of_none e hx) (e1 _ _ e)) ik⟩⟩
theorem ok_kinds_with {CB CK : Addr} (T : Tx mg) (B : BookC K CB) (C_sum_stands : Cal P w K mg base (k + 1) "sum_stands" ["book", "handles", "rims"] (spSumOk K CB)) (C_Kind : KMade P w K mg base k CB CK) (C_divisor : CalR P w K mg base (k + 1) "divisor" spDivisor)
    (C_divisors_of : Cal P w K mg base (k + 1) "divisors_of" ["number"] spDivs) (C_balances_for : Cal P w K mg base (k + 1) "balances_for" ["book", "rims", "share"] (spBalFor K CB)) (F : Fun K "kinds_with" "kinds_with" s_kinds_with f fd) :
    FnOk P w K mg base CX0 (k + 2) f fd ["book", "handles", "rims"] (spKindsW K CB CK) := by
  refine F.ok sc_kinds_with (fun vs H Q E h => ?_) (fun cdv A outer s H vs Q E hr h => ?_)
  · obtain ⟨_, _, _, _, _, _, rfl, _⟩ := h
    rfl
  · obtain ⟨p, a, nn, mm, hh, rs, rfl, hb, hS, hl, hn, hm, h0, hri, htop, ⟨hg0, hg⟩, q⟩ := h
    refine ⟨_, PSs.nox (pss_cons (ps_if (pt_not (pt_val (pe_u C_sum_stands hr (pa_cons (pv 0) (pa_cons (pv 1) (pa_cons (pv 2) pa_nil)))))) (pss_one (ps_ret (pe_lst pa_nil))) pss_nil)
    (pss_cons (ps_if (pt_cmpR op_eq (pv 1) pe_int (nomark _)) (pss_one (ps_ret (pe_lst (pa_cons (pe_kind0 (K := K) rfl C_Kind hr (pa_cons (pv 0) (pa_cons pe_int (pa_cons (pv 2) pa_nil)))) pa_nil)))) pss_nil)
    (pss_cons (ps_if (pt_cmpR op_eq (pv 1) pe_int (nomark _)) (pss_cons (ps_setLc (i := 3) (own := [("rim", 8)]) (g := gName 8) rfl sc_kinds_with.nd rfl rfl (sw_true rfl rfl rfl (by decide +kernel)) (pi_seq (pv 2)) (blkOk_by (own := [("rim", 8)]) (N := N_kinds_with) (sc := defScope s_kinds_with) (by decide +kernel)) (fun _ _ _ _ _ => pg_name (i := 8) sc_kinds_with.nd rfl (.inl rfl)) (fun _ _ _ _ _ => pts_nil) (fun _ _ _ _ _ => (pe_op op_add (pv 8) (pe_fdK (K := K) rfl (pv 0) rfl))))
    (pss_cons (ps_set (i := 4) sc_kinds_with.nd rfl (.inl rfl) (pe_s C_divisor hr (pa_cons (pe_fld (pv 0) rfl) (StX.pa_star (pv 3) pa_nil))))
    (pss_one (ps_ret (pe_lc (own := [("measure", 9)]) (g := gName 9) rfl sc_kinds_with.nd (pi_seq (pe_u C_divisors_of hr (pa_cons (pv 4) pa_nil))) (blkOk_by (own := [("measure", 9)]) (N := N_kinds_with) (sc := defScope s_kinds_with) (by decide +kernel)) (fun _ _ _ _ _ => pg_name (i := 9) sc_kinds_with.nd rfl (.inl rfl)) (fun _ _ _ _ _ => pts_nil) (fun _ _ _ _ _ => (pe_kindM (K := K) rfl C_Kind hr (pa_cons (pv 0) (pa_cons pe_int (pa_cons (pv 2) pa_nil))) (pk_cons (pv 9) pk_nil)))))))) pss_nil)
    (pss_cons (ps_set (i := 5) sc_kinds_with.nd rfl (.inl rfl) (pe_lst pa_nil))
    (pss_cons (ps_for PassesOwn.never rfl (pi_seq (pe_u C_divisors_of hr (pa_cons (pe_s C_divisor hr (pa_cons (pe_fld (pv 0) rfl) (pa_cons (pe_fld (pv 0) rfl) (StX.pa_star (pv 2) pa_nil)))) pa_nil))) (pg_name (i := 6) sc_kinds_with.nd rfl (.inl rfl))
      (pss_one (ps_for PassesOwn.never rfl (pi_seq (pe_u C_balances_for hr (pa_cons (pv 0) (pa_cons (pv 2) (pa_cons (pv 6) pa_nil))))) (pg_name (i := 7) sc_kinds_with.nd rfl (.inl rfl))
      (pss_one (ps_expr (pe_bm PySem.F.plainAttrs_list PySem.F.slot_list_append PySem.F.type_list_append mt_append (pv 5) (pa_cons (pe_kindS (K := K) rfl C_Kind hr (pa_cons (pv 0) (pa_cons (pv 1) (pa_cons (pv 2) pa_nil))) (pk_cons (pv 6) (pk_cons (pv 7) pk_nil))) pa_nil)))))))
    (pss_one (ps_ret (pv 5)))))))), ?_⟩
    refine ⟨_, rfl, _, rfl, _, rfl, p, a, nn, mm, hh, rs, rfl, hb, hS.a, hn, hm, _, rfl, ?_⟩
    unfold kindsW at q
    cases es : sumOk nn mm hh rs with
    | false =>
      rw [es] at q
      refine iteT ?_
      exact ⟨(by show 0 ≤ sizeLine; decide), fun L hL => q L _ [] (Same.new hL) hL upd_same trivial⟩
    | true =>
      rw [es, if_pos rfl] at q
      refine iteF ?_
      refine ⟨_, rfl, rfl, _, rfl, ?_⟩
      rw [decI]
      by_cases c0 : hh = 0
      · subst c0
        rw [if_pos rfl] at q
        refine iteT ?_
        refine ⟨_, rfl, _, rfl, ?_⟩
        intro y dy hy hdy _
        refine made (m := none) (s := none) (b := none) hb hS (by omega) hn hm (kok0 hri es) hy hdy fun H2 e2 ik => ?_
        refine ⟨(by show 1 ≤ sizeLine; decide), fun L hL => q L _ [y] (e2.trans (Same.new hL)) (Same.nn e2 hL) upd_same ⟨ik.same (Same.new hL), trivial⟩⟩
      · rw [if_neg c0] at q
        rw [decide_eq_false c0]
        refine iteF ?_
        refine ⟨_, rfl, rfl, _, rfl, ?_⟩
        rw [decI]
        by_cases c1 : hh = 1
        · subst c1
          rw [if_pos rfl] at q
          obtain ⟨t0, t1⟩ := htop rfl es
          refine iteT ?_
          walk_at "red"
          refine tlc_pure (onI fun r => .int (r + nn)) (fun R r => ⟨_, rfl, r⟩) hS.a (len1000 (by omega)) (fun _ => rfl) (fun x hx H' e Q' q' => ?_) fun D hD => ?_
          · obtain ⟨r, _, rfl⟩ := List.mem_map.mp hx
            refine ⟨_, rfl, ?_⟩
            exact rd_arms B (hb.same e) (fun R r => ⟨_, rfl, r⟩) ⟨_, _, rfl, rfl, q'⟩
          rw [onI_map]
          refine rd_modulus B (hb.same (Same.new hD)) (fun R r => ⟨_, rfl, r⟩) ?_
          refine ⟨_, rfl, D, _, rfl, .inr (SqL.of upd_same), ?_⟩
          refine ⟨mm :: rs.map (· + nn), ?_, ?_, fun H1 e1 => ?_⟩
          · simp
          · rw [List.length_cons, List.length_map]
            omega
          rw [gcdL_gN]
          have eH : Same H H1 := (Same.new hD).trans e1
          dsimp only [tNext, tSeq, gName, tAsg, tRet]
          refine tlc_kinds (CB := CB) (CK := CK) (K := K) (nn := nn) (mm := mm) (xs := (dv (gN (mm :: rs.map (· + nn))) (gN (mm :: rs.map (· + nn)))).map vN) (kdI rs) (fun R r => ?_) ?_ ?_ (fun x hx H2 e2 Q' q' => ?_) fun L H3 ys e3 hL h3 ak => ?_
          · refine ⟨_, rfl, _, rfl, t0, t1, fun L H' e' _ hL => r L H' e' (sqA_l hL)⟩
          · rw [List.length_map]
            exact Nat.lt_of_le_of_lt (dv_len _ _) (Nat.lt_of_le_of_lt t1 (by decide))
          · exact fun _ => rfl
          · obtain ⟨d, hd, rfl⟩ := List.mem_map.mp hx
            refine ⟨_, rfl, _, rfl, _, rfl, rfl, rfl, ?_⟩
            intro y dy hy hdy _
            exact made (m := some (d : Int)) (s := none) (b := none) (hb.same (eH.trans e2)) (hS.same (eH.trans e2)) (by omega) hn hm (kok1 hri es hd) hy hdy fun H4 e4 ik => q' y H4 e4 ik
          · refine q L H3 ys (eH.trans e3) (Same.nn eH hL) h3 ?_
            rw [List.map_map] at ak
            exact ak
        · rw [if_neg c1] at q
          rw [decide_eq_false c1]
          refine iteF ?_
          refine ⟨(by show 0 ≤ sizeLine; decide), fun Fo hF => ?_⟩
          have eF : Same H (upd H Fo (.lst [])) := Same.new hF
          have kF : Keeps Fo H (upd H Fo (.lst [])) := Same.keeps eF
          obtain ⟨dp, hp⟩ := id hb
          have npF : p ≠ Fo := ne_of_none hp hF
          have naF : a ≠ Fo := by
            rcases hS with h | h
            · exact ne_of_none h hF
            · exact ne_of_none h hF
          dsimp only [tNext, tSeq, gName, tAsg, tRet]
          refine for_G (K := K) (xs := (dv (gN (nn :: mm :: rs)) (gN (nn :: mm :: rs))).map vN) (fun L H1 => Same (upd H Fo (.lst [])) H1 ∧ upd H Fo (.lst []) L = none ∧ H1 L = some (.lst ((dv (gN (nn :: mm :: rs)) (gN (nn :: mm :: rs))).map vN)))
            (fun L H1 i σ' H' => (∃ s6 s7, σ' = [some (.ref p), some (.int hh), some (.ref a), none, none, some (.ref Fo), s6, s7, none, none]) ∧ Keeps Fo H1 H' ∧ ∃ ys, H' Fo = some (.lst (ys.map V.ref)) ∧ AllK CB CK K H' nn mm ys (((dv (gN (nn :: mm :: rs)) (gN (nn :: mm :: rs))).take i).flatMap fun (s : Nat) => (balFor nn mm rs (s : Int)).map (mk2 hh rs s)))
            (fun R r => ?_) (fun L H1 e => sqA_l e.2.2) (fun L H1 e => ?_) (fun L H1 e i σ' H' pv x hx => ?_) (fun L H1 e i x σ' H2 hx pv => ?_) (fun L H1 e σ' H' pv => ?_)
          · refine rd_arms B (hb.same eF) (fun R r => ⟨_, rfl, r⟩) ?_
            refine rd_modulus B (hb.same eF) (fun R r => ⟨_, rfl, r⟩) ?_
            have sx := hS.same eF
            refine ⟨_, rfl, a, _, rfl, (by rcases sx with h | h; exact .inr (SqL.of h); exact .inl (SqT.of h)), ?_⟩
            refine ⟨nn :: mm :: rs, ?_, ?_, fun H1 e1 => ?_⟩
            · simp
            · rw [List.length_cons, List.length_cons]
              omega
            rw [gcdL_gN]
            exact ⟨_, rfl, hg0, hg, fun L H' e' hL h' => r L H' ⟨e1.trans e', Same.nn e1 hL, h'⟩⟩
          · exact ⟨⟨none, none, rfl⟩, fun _ _ _ e => e, [], e.1 _ _ upd_same, trivial⟩
          · exact pv.2.1 _ _ (fun z => by have := e.2.1; rw [z, upd_same] at this; cases this) hx
          · obtain ⟨⟨s6, s7, rfl⟩, k1, ys, hys, ak⟩ := pv
            rw [List.getElem?_map] at hx
            obtain ⟨d, hd, rfl⟩ := Option.map_eq_some_iff.mp hx
            have hdm := List.mem_of_getElem? hd
            have e0 : Keeps Fo H H2 := (kF.trans (Same.keeps e.1)).trans k1
            have il : i ≤ 1000000 := by
              have h1 : i < (dv (gN (nn :: mm :: rs)) (gN (nn :: mm :: rs))).length := by
                rcases Nat.lt_or_ge i (dv (gN (nn :: mm :: rs)) (gN (nn :: mm :: rs))).length with z | z
                · exact z
                · rw [List.getElem?_eq_none z] at hd
                  cases hd
              have := dv_len (gN (nn :: mm :: rs)) (gN (nn :: mm :: rs))
              omega
            dsimp only [tNext, tSeq, gName, tAsg, tRet]
            refine for_G (K := K) (xs := (balFor nn mm rs d).map optV) (fun Lb H3 => Same H2 H3 ∧ H2 Lb = none ∧ H3 Lb = some (.lst ((balFor nn mm rs d).map optV)))
              (fun Lb H3 j σ' H' => (∃ s7, σ' = [some (.ref p), some (.int hh), some (.ref a), none, none, some (.ref Fo), some (vN d), s7, none, none]) ∧ Keeps Fo H3 H' ∧ ∃ ys, H' Fo = some (.lst (ys.map V.ref)) ∧ AllK CB CK K H' nn mm ys ((((dv (gN (nn :: mm :: rs)) (gN (nn :: mm :: rs))).take i).flatMap fun (s : Nat) => (balFor nn mm rs (s : Int)).map (mk2 hh rs s)) ++ ((balFor nn mm rs d).take j).map (mk2 hh rs d)))
              (fun R r => ?_) (fun L H1 e => sqA_l e.2.2) (fun Lb H3 e3 => ?_) (fun Lb H3 e3 j σ' H' pv x hx => ?_) (fun Lb H3 e3 j x σ' H4 hx pv => ?_) (fun Lb H3 e3 σ' H' pv => ?_)
            · refine ⟨_, rfl, _, rfl, _, rfl, p, a, nn, mm, (d : Int), rs, rfl, hb.keep e0 npF, (sqx_keep e0 naF hS).a, by omega, ?_, fun Lb H' e' hL h' => r Lb H' ⟨e', hL, h'⟩⟩
              have := dvd_dv hdm
              omega
            · refine ⟨⟨s7, rfl⟩, fun _ _ _ e => e, ys, e3.1 _ _ hys, ?_⟩
              rw [List.take_zero, List.map_nil, List.append_nil]
              exact ak.imp fun _ _ z => z.same e3.1
            · exact pv.2.1 _ _ (fun z => by have := e3.2.1; rw [z, hys] at this; cases this) hx
            · obtain ⟨⟨s7, rfl⟩, k4, zs, hzs, ak4⟩ := pv
              rw [List.getElem?_map] at hx
              obtain ⟨b, hbb, rfl⟩ := Option.map_eq_some_iff.mp hx
              have hbm := List.mem_of_getElem? hbb
              have e04 : Keeps Fo H H4 := (e0.trans (Same.keeps e3.1)).trans k4
              refine ⟨_, rfl, .inl ⟨rfl, _, SqL.of hzs⟩, ?_⟩
              refine ⟨_, rfl, _, rfl, _, rfl, _, rfl, _, rfl, rfl, rfl, ?_⟩
              intro y dy hy hdy _
              refine made (m := none) (s := some (d : Int)) (b := b) (hb.keep e04 npF) (sqx_keep e04 naF hS) (by omega) hn hm (kok2 (by omega) hri es hg hdm hbm) hy hdy fun H5 e5 ik => ?_
              have hz5 := e5 _ _ hzs
              have zl : zs.length ≤ 2000002 := by
                rw [ak4.len, List.length_append, List.length_map, List.length_take]
                have h1 := flat_len (f := fun (s : Nat) => (balFor nn mm rs s).map (mk2 hh rs s)) (fun s => by rw [List.length_map]; exact bal_len _ _ _ _) ((dv (gN (nn :: mm :: rs)) (gN (nn :: mm :: rs))).take i)
                rw [List.length_take] at h1
                have h2 := bal_len nn mm rs d
                omega
              refine ⟨Fo, _, _, rfl, rfl, hz5, ?_, ?_⟩
              · rw [List.length_map]
                exact Nat.lt_of_le_of_lt zl (by decide)
              · refine ⟨⟨some (optV b), rfl⟩, (k4.trans (Same.keeps e5)).trans Keeps.upd, zs ++ [y], ?_, ?_⟩
                · rw [upd_same, List.map_append]
                  rfl
                · rw [List.take_add_one, hbb, List.map_append, ← List.append_assoc]
                  exact (ak4.imp fun _ _ z => (z.same e5).keep hz5 Keeps.upd).app ⟨ik.keep hz5 Keeps.upd, trivial⟩
            · obtain ⟨⟨s7, rfl⟩, k4, zs, hzs, ak4⟩ := pv
              rw [List.length_map, List.take_length] at ak4
              refine ⟨⟨some (vN d), s7, rfl⟩, (k1.trans (Same.keeps e3.1)).trans k4, zs, hzs, ?_⟩
              rw [flat_take hd]
              exact ak4
          · obtain ⟨⟨s6, s7, rfl⟩, k1, ys, hys, ak⟩ := pv
            rw [List.length_map, List.take_length] at ak
            exact ⟨_, rfl, q Fo H' ys (((kF.trans (Same.keeps e.1)).trans k1).same hF) hF hys ak⟩
end
end C53
set_option Elab.async false
set_option linter.all false
set_option maxRecDepth 100000
set_option maxHeartbeats 2000000
namespace C53
open PySem PySem.Spec PyProof.Rows Ex
open L2 hiding GC GEnds GFn GI GK GMade GR GS GSP GSs GY PGen SpG TGen TGn gc_loop gfn_of gs_ps gs_while gs_yield gss_cons gss_nil gss_pss pgen_call sp_gsp tCallG tG0 tGThen tGWhile tGYield tPlain
open GF
abbrev s_kinds_of : Stmt := topS 51
abbrev N_kinds_of : List Str := ["book", "handles", "rims", "most", "given", "measure", "found", "kind", "rim"]
theorem sc_kinds_of : GScope N_kinds_of ["book", "handles", "rims", "most"] (defScope s_kinds_of) := ⟨rfl, rfl, rfl, by decide +kernel, rfl, by decide +kernel, by decide +kernel⟩
def sqE (rs : List Int) (mst : Option Nat) (i : Nat) : Option Kd := match mst with
  | none => some (mk1 rs i)
  | some m => if i < m then some (mk1 rs i) else none
def sqK (ks : List Kd) : Option Nat → List Kd
  | none => ks
  | some m => ks.take m
def sq (nn mm h : Int) (rs : List Int) (mst : Option Nat) (i : Nat) : Option Kd :=
  if endl nn mm h rs = true then sqE rs mst i else (sqK (kindsW nn mm h rs) mst)[i]?
def oN (mst : Option Nat) : Option Int := mst.map fun n => (n : Int)
def spKinds (K : PySem.W.Frag) (CB CK : Addr) : GF.SpG := fun vs H cn qf => ∃ (p a Fo : Addr) (nn mm h : Int) (rs0 rs : List Int) (mst : Option Nat) (zs0 : List V), vs = [.ref p, .int h, .ref a, optV (oN mst)] ∧ IsBook CB H p nn mm ∧ SqA K H a (rs0.map V.int) ∧ H Fo = some (.lst zs0) ∧ rs0.length ≤ 900 ∧ (-1000 < nn ∧ nn < 1000) ∧ 0 ≤ mm ∧ 0 ≤ h ∧
  rs.Perm (rs0.map (red' mm)) ∧ rs.Pairwise (· ≤ ·) ∧ rimsOk mm rs = true ∧ (endl nn mm h rs = true → sumOk nn mm h rs = true) ∧
  (endl nn mm h rs = false → h = 1 → sumOk nn mm h rs = true → 0 < gN (mm :: rs.map (· + nn)) ∧ gN (mm :: rs.map (· + nn)) ≤ 1000000) ∧ (0 < gN (nn :: mm :: rs) ∧ gN (nn :: mm :: rs) ≤ 1000000) ∧
  (∀ ys Hw y kd H', sq nn mm h rs mst ys.length = some kd → Same Hw H' → IsKind CB CK K H' y nn mm kd → cn.qy ys Hw (.ref y) H') ∧
  (∀ ys x H1 H2, cn.rs ys x H1 H2 → ys.length < 5000 ∧ Keeps Fo H1 H2 ∧ ∃ zs, H2 Fo = some (.lst zs)) ∧
  (∀ ys Hw H', sq nn mm h rs mst ys.length = none → Same Hw H' → qf ys Hw H')
theorem endl_of {nn mm h : Int} {rs : List Int} (e : endl nn mm h rs = true) : mm = 0 ∧ h = 1 ∧ ∀ r ∈ rs, r = -nn := by
  unfold endl at e
  rw [Bool.and_eq_true, Bool.and_eq_true, decide_eq_true_iff, decide_eq_true_iff, List.all_eq_true] at e
  exact ⟨e.1, e.2.1, fun r hr => of_decide_eq_true (e.2.2 r hr)⟩
theorem meas_endl {nn : Int} {rs : List Int} (h : ∀ r ∈ rs, r = -nn) (i : Nat) : measOk nn 0 rs i = true := by
  have d0 : ∀ i : Nat, dvd' i 0 = true := fun i => by
    unfold dvd'
    split
    · exact decide_eq_true rfl
    · exact decide_eq_true (Int.zero_emod _)
  unfold measOk
  rw [d0, if_pos rfl, decide_eq_true (by omega), Bool.and_self, Bool.true_and, List.all_eq_true]
  intro r hr
  rw [h r hr, show -nn + nn = 0 by omega]
  exact d0 i
theorem kw_small {nn mm h : Int} {rs : List Int} (h1 : endl nn mm h rs = false → h = 1 → sumOk nn mm h rs = true → 0 < gN (mm :: rs.map (· + nn)) ∧ gN (mm :: rs.map (· + nn)) ≤ 1000000) (he : endl nn mm h rs = false) (h2 : gN (nn :: mm :: rs) ≤ 1000000) : (kindsW nn mm h rs).length ≤ 2000000 := by
  unfold kindsW
  split
  · split
    · show 1 ≤ 2000000
      decide
    · split
      · rename_i s _ c
        rw [List.length_map]
        have := dv_len (gN (mm :: rs.map (· + nn))) (gN (mm :: rs.map (· + nn)))
        have := (h1 he c s).2
        omega
      · have h1 := flat_len (f := fun (s : Nat) => (balFor nn mm rs (s : Int)).map (mk2 h rs s)) (fun s => by rw [List.length_map]; exact bal_len _ _ _ _) (dv (gN (nn :: mm :: rs)) (gN (nn :: mm :: rs)))
        have := dv_len (gN (nn :: mm :: rs)) (gN (nn :: mm :: rs))
        omega
  · exact Nat.zero_le _
theorem cut_take (xs : List V) (m : Nat) : cutV xs none (some (m : Int)) = xs.take m := by
  unfold cutV
  rw [HT.sIx_none, HT.sIx_nat, List.drop_zero, Nat.sub_zero]
  rcases Nat.le_total m xs.length with h | h
  · rw [Nat.min_eq_left h]
  · rw [Nat.min_eq_right h, List.take_length, List.take_of_length_le h]
section
variable {X : Cx} {n : Nat} {pos yp : Pos}
theorem gs_ps' {st : Stmt} {T : Shared → Hp → TS} (nx : Nox X) (h : ∀ s0 H0, PS (atc X s0 H0) st (T s0 H0)) (e : ∀ s0 H0, T s0 H0 = T X.s_0 X.H_0 := by intros; rfl) : GS X n st (tPlain (T X.s_0 X.H_0)) := gs_ps nx fun s0 H0 => e s0 H0 ▸ h s0 H0
theorem gs_if' {c : Expr} {a b : List Stmt} {T : Shared → Hp → TT} {t u : TGn} (nx : Nox X) (hc : ∀ s0 H0, PT (atc X s0 H0) c (T s0 H0)) (ha : GSs X n a t) (hb : GSs X n b u) (e : ∀ s0 H0, T s0 H0 = T X.s_0 X.H_0 := by intros; rfl) : GS X n (.If c a b pos) (tGIf (T X.s_0 X.H_0) t u) :=
  gs_if nx (fun s0 H0 => e s0 H0 ▸ hc s0 H0) ha hb
theorem gs_while' {test : Expr} {body : List Stmt} {T : Shared → Hp → TT} {tb : TGn} (nx : Nox X) (hc : ∀ s0 H0, PT (atc X s0 H0) test (T s0 H0)) (hb : GSs X n body tb) (e : ∀ s0 H0, T s0 H0 = T X.s_0 X.H_0 := by intros; rfl) : GS X n (.While test body [] pos) (tGWhile (T X.s_0 X.H_0) tb) :=
  gs_while nx (fun s0 H0 => e s0 H0 ▸ hc s0 H0) hb
theorem gs_yield' {e : Expr} {T : Shared → Hp → TE} (nx : Nox X) (he : ∀ s0 H0, PE (atc X s0 H0) e (T s0 H0)) (e' : ∀ s0 H0, T s0 H0 = T X.s_0 X.H_0 := by intros; rfl) (hco : X.env.scope.isCoroutine = false := by rfl) (hin : interactive X.env = false := by rfl) : GS X n (.Expr (.Yield (some e) yp) pos) (tGYield (T X.s_0 X.H_0)) :=
  gs_yield nx (fun s0 H0 => e' s0 H0 ▸ he s0 H0) hco hin
theorem gs_for' {tg iter : Expr} {body : List Stmt} {T : Shared → Hp → TI} {g : TG} {tb : TGn} (nx : Nox X) (hex : X.ex = []) (hc : X.calm = true) (hi : ∀ s0 H0, PI (atc X s0 H0) tg iter (T s0 H0)) (hg : ∀ s0 H0, PG (atc X s0 H0) tg g) (hb : GSs X n body tb) (e : ∀ s0 H0, T s0 H0 = T X.s_0 X.H_0 := by intros; rfl)
    (hs : ∀ x, foldedSetIterable iter X.env x = pure x := by intro _; rfl) : GS X n (.For tg iter body [] pos) (tGFor (T X.s_0 X.H_0) g tb) := gs_for nx hex hc (fun s0 H0 => e s0 H0 ▸ hi s0 H0) hg hb hs
end
section
variable {P : Program} {w : World} {K : PySem.W.Frag} {mg : Str → Option Value} {base : Heap} {k : Nat} {f : Addr} {fd : FuncData}
theorem ok_kinds_of {CB CK : Addr} (T : Tx mg) (C_reduced : Cal P w K mg base (k + 1) "reduced" ["book", "n"] (spReduced CB)) (C_is_endless : Cal P w K mg base (k + 1) "is_endless" ["book", "handles", "rims"] (spEndl K CB))
    (C_Kind : KMade P w K mg base k CB CK) (C_kinds_with : Cal P w K mg base (k + 1) "kinds_with" ["book", "handles", "rims"] (spKindsW K CB CK))
    (F : FunD K "kinds_of" "kinds_of" (defArgs s_kinds_of) (defBody s_kinds_of) (defScope s_kinds_of) [] [("most", .non)] f fd) : GF.GFn P w K mg base (k + 2) f fd ["book", "handles", "rims", "most"] (spKinds K CB CK) := by
  obtain ⟨oc, od, dV, kV, doc, pm, an, cdv, ct, osl, rfl, lk, hcd, _, _⟩ := F.ex
  refine GF.gfn_of lk hcd sc_kinds_of fun A outer n s H vs pn hr hlen => ?_
  refine ⟨_, gss_cons (gs_ps' nox_gx fun s0 H0 => (ps_set (i := 4) sc_kinds_of.nd rfl (.inl rfl) (pe_callB cr_sortA (by rfl) T.b_sorted (show bootBuiltins "sorted" = some (.builtin "sorted") by decide +kernel) (pa_cons (pe_lc (own := [("rim", 8)]) (g := gName 8) rfl sc_kinds_of.nd (pi_seq (pv 2)) (blkOk_by (own := [("rim", 8)]) (N := N_kinds_of) (sc := defScope s_kinds_of) (by decide +kernel)) (fun _ _ _ _ _ => pg_name (i := 8) sc_kinds_of.nd rfl (.inl rfl)) (fun _ _ _ _ _ => pts_nil) (fun _ _ _ _ _ => (pe_u C_reduced hr (pa_cons (pv 0) (pa_cons (pv 8) pa_nil))))) pa_nil))))
    (gss_cons (gs_if' nox_gx (fun s0 H0 => (pt_val (pe_u C_is_endless hr (pa_cons (pv 0) (pa_cons (pv 1) (pa_cons (pv 4) pa_nil))))))
      (gss_cons (gs_ps' nox_gx fun s0 H0 => (ps_set (i := 5) sc_kinds_of.nd rfl (.inl rfl) pe_int))
      (gss_cons (gs_while' nox_gx (fun s0 H0 => (PW.pt (pw_or (pt_cmpR op_isN (pv 3) pe_non (nomark _)) (pw_or1 (pt_cmpR op_lt (pv 5) (pv 3) (nomark _))))))
        (gss_cons (gs_yield' nox_gx (fun s0 H0 => (pe_kindM (K := K) rfl C_Kind hr (pa_cons (pv 0) (pa_cons pe_int (pa_cons (pv 4) pa_nil))) (pk_cons (pv 5) pk_nil))))
        (gss_cons (gs_ps' nox_gx fun s0 H0 => (ps_aug (i := 5) sc_kinds_of.nd rfl (.inl rfl) pe_int ip_add)) gss_nil)))
      (gss_cons (gs_ps' nox_gx fun s0 H0 => ps_retN) gss_nil))) gss_nil)
    (gss_cons (gs_ps' nox_gx fun s0 H0 => (ps_set (i := 6) sc_kinds_of.nd rfl (.inl rfl) (pe_u C_kinds_with hr (pa_cons (pv 0) (pa_cons (pv 1) (pa_cons (pv 4) pa_nil))))))
    (gss_cons (gs_for' nox_gx rfl rfl (fun s0 H0 => (pi_seq (pe_ifExp (pt_cmpR op_isN (pv 3) pe_non (nomark _)) (pv 6) (pe_slice sl_list (pv 6) po_none (po_some (pv 3)))))) (fun s0 H0 => (pg_name (i := 7) sc_kinds_of.nd rfl (.inl rfl)))
      (gss_cons (gs_yield' nox_gx fun s0 H0 => (pv 7)) gss_nil)) gss_nil))), ?_⟩
  intro W qf H2 hsp
  obtain ⟨p, a, Fo, nn, mm, h, rs0, rs, mst, zs0, rfl, hb, hS, hF, hl0, hn, hm, h0, hperm, hsort, hri, hes, htop, hg, qy, qr, qe⟩ := hsp
  have hl : rs.length ≤ 900 := by
    rw [hperm.length_eq, List.length_map]
    exact hl0
  obtain ⟨dp, hp⟩ := id hb
  have npF : p ≠ Fo := ne_dk hp hF
  dsimp only [tGThen, tPlain, GF.GEnds.at, tAsg, tCB, tCons, tNil, gName]
  refine tlc_pure (onI fun r => .int (red' mm r)) (fun R r => ⟨_, rfl, r⟩) hS (len1000 (by omega)) (fun _ => rfl) (fun x hx H' e Q' q' => ?_) fun D hD => ?_
  · obtain ⟨r, _, rfl⟩ := List.mem_map.mp hx
    exact ⟨_, rfl, _, rfl, p, nn, mm, r, rfl, hb.same e, hm, q'⟩
  rw [onI_map]
  refine ⟨D, rs0.map (red' mm), rfl, sqA_l (by rw [upd_same, List.map_map]; rfl), fun ns' L hp1 hp2 hL => ?_⟩
  obtain rfl : rs = ns' := List.Perm.eq_of_pairwise (le := (· ≤ ·)) (fun a b _ _ h1 h2 => Int.le_antisymm h1 h2) hsort hp2 (hperm.trans hp1.symm)
  have e1 : Same H2 (upd (upd H2 D (.lst (rs0.map fun r => V.int (red' mm r)))) L (.lst (rs.map V.int))) := (Same.new hD).trans (Same.new hL)
  have hLF : L ≠ Fo := (ne_of_none (Same.new hD _ _ hF) hL).symm
  refine ⟨_, rfl, _, rfl, _, rfl, p, L, nn, mm, h, rs, rfl, hb.same e1, sqA_l upd_same, by omega, fun H3 e3 => ⟨_, rfl, ?_⟩⟩
  have e13 := e1.trans e3
  have hF3 := e13 _ _ hF
  have hL3 := e3 _ _ upd_same
  cases he : endl nn mm h rs with
  | true =>
    obtain ⟨rfl, rfl, hr0⟩ := endl_of he
    have hsum := hes he
    have sqe : ∀ i, sq nn 0 1 rs mst i = sqE rs mst i := fun i => by
      unfold sq
      rw [if_pos he]
    refine iteT ?_
    refine ⟨fun j ys Hw σ H => j = 6000 - ys.length ∧ ys.length ≤ 5000 ∧ σ = [some (.ref p), some (.int 1), some (.ref a), some (optV (oN mst)), some (.ref L), some (.int (ys.length : Int)), none, none, none] ∧ Same Hw H ∧ (∃ zs, H Fo = some (.lst zs)) ∧ IsBook CB H p nn 0 ∧ H L = some (.lst (rs.map V.int)), ⟨6000, rfl, Nat.zero_le _, rfl, e13, ⟨_, hF3⟩, hb.same e13, hL3⟩, ?_⟩
    rintro j ys Hw σ H4 ⟨rfl, hys, rfl, e4, ⟨zs, hz⟩, hb4, hL4⟩
    have body : ∀ (D' : GEnds), (∀ x H5 H6, W.rs ys x H5 H6 → Same H4 H5 → D'.nx (ys ++ [x]) H6 [some (.ref p), some (.int 1), some (.ref a), some (optV (oN mst)), some (.ref L), some (.int (ys.length : Int)), none, none, none] H6) → sq nn 0 1 rs mst ys.length = some (mk1 rs ys.length) →
        tGYield (tMakeK CK 3 1 (spKindInit K CB CK) (fun vs zs => vs ++ (zs ++ [V.non, V.non])) E0 (tCons (tVar 0) (tCons (tC (.int 1)) (tCons (tVar 4) tNil))) (tCons (tVar 5) tNil)) W D' ys Hw [some (.ref p), some (.int 1), some (.ref a), some (optV (oN mst)), some (.ref L), some (.int (ys.length : Int)), none, none, none] H4 := by
      intro D' hN hsq
      refine ⟨Nat.lt_of_le_of_lt hys (by decide), ?_⟩
      refine ⟨_, rfl, _, rfl, _, rfl, rfl, rfl, ?_⟩
      intro y dy hy hdy _
      refine made (m := some (ys.length : Int)) (s := none) (b := none) hb4 (.inl hL4) (by omega) hn hm (kok1' hri hsum (by omega) (meas_endl hr0 _)) hy hdy fun H5 e5 ik => ?_
      exact ⟨qy ys Hw y _ H5 hsq (e4.trans e5) ik, fun H6 hrs => hN _ _ _ hrs e5⟩
    have step : ∀ x H5 H6, W.rs ys x H5 H6 → Same H4 H5 → (fun (ys' : List V) (Hw' : Hp) (σ' : L2.St) (H' : Hp) => ys'.length = ys.length + 1 ∧ ys'.length ≤ 5000 ∧ σ' = [some (.ref p), some (.int 1), some (.ref a), some (optV (oN mst)), some (.ref L), some (.int (ys'.length : Int)), none, none, none] ∧ Same Hw' H' ∧ (∃ zs, H' Fo = some (.lst zs)) ∧ IsBook CB H' p nn 0 ∧ H' L = some (.lst (rs.map V.int)))
        (ys ++ [x]) H6 [some (.ref p), some (.int 1), some (.ref a), some (optV (oN mst)), some (.ref L), some (.int ((ys.length : Int) + 1)), none, none, none] H6 := fun x H5 H6 hrs e5 => by
      obtain ⟨r1, r2, r3⟩ := qr _ _ _ _ hrs
      have ln : (ys ++ [x]).length = ys.length + 1 := by rw [List.length_append]; rfl
      refine ⟨ln, by omega, by rw [ln]; rfl, Same.refl _, r3, (hb4.same e5).keep r2 npF, r2 _ _ hLF (e5 _ _ hL4)⟩
    have dec : ∀ ys' Hw' σ' H', (fun (ys' : List V) (Hw' : Hp) (σ' : L2.St) (H' : Hp) => ys'.length = ys.length + 1 ∧ ys'.length ≤ 5000 ∧ σ' = [some (.ref p), some (.int 1), some (.ref a), some (optV (oN mst)), some (.ref L), some (.int (ys'.length : Int)), none, none, none] ∧ Same Hw' H' ∧ (∃ zs, H' Fo = some (.lst zs)) ∧ IsBook CB H' p nn 0 ∧ H' L = some (.lst (rs.map V.int))) ys' Hw' σ' H' →
        ∃ m', m' < 6000 - ys.length ∧ (m' = 6000 - ys'.length ∧ ys'.length ≤ 5000 ∧ σ' = [some (.ref p), some (.int 1), some (.ref a), some (optV (oN mst)), some (.ref L), some (.int (ys'.length : Int)), none, none, none] ∧ Same Hw' H' ∧ (∃ zs, H' Fo = some (.lst zs)) ∧ IsBook CB H' p nn 0 ∧ H' L = some (.lst (rs.map V.int))) := fun ys' Hw' σ' H' ⟨a, b, c⟩ => ⟨6000 - ys'.length, by omega, rfl, b, c⟩
    refine ⟨_, rfl, rfl, _, rfl, ?_⟩
    rw [optN]
    cases mst with
    | none =>
      refine iteT (iteT ?_)
      exact ⟨_, dec, body _ (fun x H5 H6 hrs e5 => ⟨_, rfl, _, _, rfl, rfl, step x H5 H6 hrs e5⟩) (by rw [sqe]; rfl)⟩
    | some m =>
      refine iteF ?_
      refine ⟨_, rfl, _, rfl, _, _, rfl, rfl, _, rfl, ?_⟩
      by_cases hc : ys.length < m
      · rw [show decide ((ys.length : Int) < (m : Int)) = true from decide_eq_true (Int.ofNat_lt.mpr hc)]
        refine iteT ?_
        exact ⟨_, dec, body _ (fun x H5 H6 hrs e5 => ⟨_, rfl, _, _, rfl, rfl, step x H5 H6 hrs e5⟩) (by rw [sqe]; exact if_pos hc)⟩
      · rw [show decide ((ys.length : Int) < (m : Int)) = false from decide_eq_false fun z => hc (Int.ofNat_lt.mp z)]
        refine iteF ?_
        exact ⟨rfl, qe ys Hw H4 (by rw [sqe]; exact if_neg hc) e4⟩
  | false =>
    have sqe : ∀ i, sq nn mm h rs mst i = (sqK (kindsW nn mm h rs) mst)[i]? := fun i => by
      unfold sq
      rw [if_neg (by rw [he]; decide)]
    refine iteF ?_
    refine ⟨_, rfl, _, rfl, _, rfl, p, L, nn, mm, h, rs, rfl, hb.same e13, .inl hL3, hl, hn, hm, h0, hri, htop he, hg, fun D2 H4 xs e4 hD2 hx4 ak => ?_⟩
    have ksm := kw_small htop he hg.2
    have e14 := e13.trans e4
    have fin : ∀ (Lx : Addr) (H5 : Hp) (ks : List Kd) (zs : List Addr), (∀ i, sq nn mm h rs mst i = ks[i]?) → ks.length ≤ 2000000 → Same H4 H5 → Lx ≠ Fo → H5 Lx = some (.lst (zs.map V.ref)) → AllK CB CK K H5 nn mm zs ks → ∀ D : GEnds, (∀ ys Hw σ H, qf ys Hw H → D.nx ys Hw σ H) →
        ∃ V' : Nat → Nat → List V → Hp → L2.St → Hp → Prop, (∃ m, V' 0 m [] H2 [some (.ref p), some (.int h), some (.ref a), some (optV (oN mst)), some (.ref L), none, some (.ref D2), none, none] H5) ∧ ∀ i m ys Hw σ H, V' i m ys Hw σ H →
          ((Itl K Lx).stop i H ∧ D.nx ys Hw σ H) ∨ ((Itl K Lx).go i H ∧ ∃ N : List V → Hp → L2.St → Hp → Prop, (∀ ys' Hw' σ' H', N ys' Hw' σ' H' → ∃ m', m' < m ∧ V' (i + 1) m' ys' Hw' σ' H') ∧ ∀ x H', (Itl K Lx).yld i H x H' → gName 7 x σ H' fun σ2 H2 => tGYield (tVar 7) W { D with nx := N, ct := N, bk := D.nx } ys Hw σ2 H2) := by
      intro Lx H5 ks zs hsq hks e5 hLn hL5 ak5 D hD
      have hzl := ak5.len
      refine ⟨fun i m ys Hw σ H => m = zs.length - i ∧ i ≤ zs.length ∧ ys.length = i ∧ (∃ s7, σ = [some (.ref p), some (.int h), some (.ref a), some (optV (oN mst)), some (.ref L), none, some (.ref D2), s7, none]) ∧ Same Hw H ∧ (∃ ws, H Fo = some (.lst ws)) ∧ H Lx = some (.lst (zs.map V.ref)) ∧ AllK CB CK K H nn mm zs ks,
        ⟨_, rfl, Nat.zero_le _, rfl, ⟨none, rfl⟩, e14.trans e5, ⟨_, e5 _ _ (e4 _ _ hF3)⟩, hL5, ak5⟩, ?_⟩
      rintro i m ys Hw σ H ⟨rfl, hi, hyl, ⟨s7, rfl⟩, eH, ⟨ws, hw⟩, hLH, akH⟩
      by_cases hlt : i < zs.length
      · refine .inr ⟨⟨zs.map V.ref, V.ref zs[i], SqL.of hLH, by simp [hlt]⟩, fun ys' Hw' σ' H' => ys'.length = i + 1 ∧ (∃ s7, σ' = [some (.ref p), some (.int h), some (.ref a), some (optV (oN mst)), some (.ref L), none, some (.ref D2), s7, none]) ∧ Same Hw' H' ∧ (∃ ws, H' Fo = some (.lst ws)) ∧ H' Lx = some (.lst (zs.map V.ref)) ∧ AllK CB CK K H' nn mm zs ks,
          fun ys' Hw' σ' H' ⟨a, b⟩ => ⟨zs.length - (i + 1), by omega, rfl, hlt, a, b⟩, fun x H' y => ?_⟩
        obtain ⟨e, y⟩ := y
        subst e
        have hx := y _ (SqL.of hLH)
        rw [List.getElem?_map] at hx
        obtain ⟨z, hz, rfl⟩ := Option.map_eq_some_iff.mp hx
        obtain ⟨kd, hkd, ik⟩ := akH.get hz
        refine ⟨Nat.lt_of_le_of_lt (show ys.length ≤ 2000000 by omega) (by decide), _, rfl, ?_⟩
        refine ⟨qy ys Hw z kd _ (by rw [hsq, hyl]; exact hkd) eH ik, fun H6 hrs => ?_⟩
        obtain ⟨_, r2, r3⟩ := qr _ _ _ _ hrs
        refine ⟨by rw [List.length_append, hyl]; rfl, ⟨some (.ref z), rfl⟩, Same.refl _, r3, r2 _ _ hLn hLH, akH.imp fun _ _ z => z.keep hw r2⟩
      · have e : i = zs.length := by omega
        refine .inl ⟨⟨_, SqL.of hLH, by rw [List.length_map]; omega⟩, hD _ _ _ _ (qe ys Hw H ?_ eH)⟩
        rw [hsq, hyl]
        exact List.getElem?_eq_none (by omega)
    have nD2 : D2 ≠ Fo := (ne_of_none (e3 _ _ (e1 _ _ hF)) hD2).symm
    refine ⟨_, rfl, rfl, _, rfl, ?_⟩
    rw [optN]
    cases mst with
    | none =>
      refine iteT ?_
      refine ⟨_, rfl, D2, rfl, .inl ⟨⟨_, SqL.of hx4⟩, ?_⟩⟩
      exact fin D2 H4 _ xs (fun i => sqe i) ksm (Same.refl _) nD2 hx4 ak _ fun ys Hw σ H q => q
    | some m =>
      refine iteF ?_
      refine ⟨_, rfl, _, rfl, _, rfl, D2, _, rfl, SqL.of hx4, fun L3 hL3' => ?_⟩
      rw [show (oN (some m)) = some (m : Int) from rfl] at *
      rw [cut_take, ← List.map_take]
      refine ⟨L3, rfl, .inl ⟨⟨_, SqL.of upd_same⟩, ?_⟩⟩
      refine fin L3 _ _ (xs.take m) (fun i => sqe i) ?_ (Same.new hL3') (ne_of_none (e4 _ _ hF3) hL3').symm upd_same ((ak.take m).imp fun _ _ z => z.same (Same.new hL3')) _ fun ys Hw σ H q => q
      show ((kindsW nn mm h rs).take m).length ≤ 2000000
      rw [List.length_take]
      omega
end
end C53
set_option Elab.async false
set_option linter.all false
set_option maxRecDepth 100000
set_option maxHeartbeats 1000000
namespace C53
open PySem PySem.Spec PyProof.Rows L2 Ex
/-- a statement's end by a word of one's own -/
def tCut (t : TS) : TS := fun D σ H => ∃ Pn : L2.St → Hp → Prop, t { D with nx := Pn } σ H ∧ ∀ σ' H', Pn σ' H' → D.nx σ' H'
theorem ps_cut {X : Cx} {st : Stmt} {t : TS} (h : PS X st t) : PS X st (tCut t) := by
  refine ⟨fun pins s σ H D I ⟨Pn, h1, h2⟩ => wpAny_mono (h.run pins s σ H { D with nx := Pn } I h1) (fun f s' q => ?_) fun _ _ z => z⟩
  cases f with
  | next =>
    obtain ⟨σ', H', I', q⟩ := q
    exact ⟨σ', H', I', h2 _ _ q⟩
  | brk => exact q
  | cont => exact q
  | ret u => exact q
end C53
set_option Elab.async false
set_option linter.all false
set_option maxRecDepth 100000
set_option maxHeartbeats 1000000
namespace C53
open PySem PySem.Spec PyProof.Rows L2 Ex
abbrev s__law_bag : Stmt := topS 53
abbrev N__law_bag : List Str := ["script", "blend", "cell"]
theorem sc__law_bag : FnScope N__law_bag ["script"] (defScope s__law_bag) := ⟨rfl, rfl, rfl, by decide +kernel, rfl, by decide +kernel, by decide +kernel⟩
abbrev s__law_draw : Stmt := topS 54
abbrev N__law_draw : List Str := ["bag", "below", "cell", "digit", "blend"]
theorem sc__law_draw : FnScope N__law_draw ["bag", "below"] (defScope s__law_draw) := ⟨rfl, rfl, rfl, by decide +kernel, rfl, by decide +kernel, by decide +kernel⟩
abbrev s__law_of : Stmt := topS 55
abbrev N__law_of : List Str := ["bag", "some"]
theorem sc__law_of : FnScope N__law_of ["bag", "some"] (defScope s__law_of) := ⟨rfl, rfl, rfl, by decide +kernel, rfl, by decide +kernel, by decide +kernel⟩
abbrev s__law_mixed : Stmt := topS 56
abbrev N__law_mixed : List Str := ["bag", "some", "found", "one"]
theorem sc__law_mixed : FnScope N__law_mixed ["bag", "some"] (defScope s__law_mixed) := ⟨rfl, rfl, rfl, by decide +kernel, rfl, by decide +kernel, by decide +kernel⟩
abbrev s__law_gcd : Stmt := topS 57
abbrev N__law_gcd : List Str := ["some", "worth", "one", "left", "right", "rest"]
theorem sc__law_gcd : FnScope N__law_gcd ["some"] (defScope s__law_gcd) := ⟨rfl, rfl, rfl, by decide +kernel, rfl, by decide +kernel, by decide +kernel⟩
abbrev s__law_divisors : Stmt := topS 58
abbrev N__law_divisors : List Str := ["top", "one"]
theorem sc__law_divisors : FnScope N__law_divisors ["top"] (defScope s__law_divisors) := ⟨rfl, rfl, rfl, by decide +kernel, rfl, by decide +kernel, by decide +kernel⟩
abbrev s__law_cut : Stmt := topS 59
abbrev N__law_cut : List Str := ["mm", "worth"]
theorem sc__law_cut : FnScope N__law_cut ["mm", "worth"] (defScope s__law_cut) := ⟨rfl, rfl, rfl, by decide +kernel, rfl, by decide +kernel, by decide +kernel⟩
abbrev s__law_weighed : Stmt := topS 60
abbrev N__law_weighed : List Str := ["nn", "mm", "step"]
theorem sc__law_weighed : FnScope N__law_weighed ["nn", "mm", "step"] (defScope s__law_weighed) := ⟨rfl, rfl, rfl, by decide +kernel, rfl, by decide +kernel, by decide +kernel⟩
def bagL (A : Addr) (i c bl n : Int) : List V := [.ref A, .int i, .int c, .int bl, .int n]
structure BagOk (H : Hp) (b A : Addr) : Prop where
  ex : ∃ (i c bl n : Int) (cells : List Int), H b = some (.lst (bagL A i c bl n)) ∧ A ≠ b ∧ H A = some (.lst (cells.map V.int)) ∧ 0 ≤ i ∧ (0 ≤ bl ∧ bl < 2147483549)
theorem BagOk.same {H H' : Hp} {b A : Addr} (e : Same H H') (h : BagOk H b A) : BagOk H' b A := by
  obtain ⟨i, c, bl, n, cells, h1, h2, h3, h4⟩ := h.ex
  exact ⟨i, c, bl, n, cells, e _ _ h1, h2, e _ _ h3, h4⟩
section
variable {P : Program} {w : World} {K : PySem.W.Frag} {mg : Str → Option Value} {base : Heap} {k : Nat} {f : Addr} {fd : FuncData}
def spBag (K : PySem.W.Frag) : Sp := fun vs H Q _ => ∃ (a : Addr) (ns : List Int), vs = [.ref a] ∧ SqL K H a (ns.map V.int) ∧ ns.length ≤ 63 ∧ ∀ b A H', Same H H' → BagOk H' b A → Q (.ref b) H'
theorem cutV_len (xs : List V) (m : Nat) : (cutV xs none (some (m : Int))).length ≤ m := by
  rw [cut_take, List.length_take]
  exact Nat.min_le_left _ _
theorem ok_law_bag (T : Tx mg) (F : Fun K "_law_bag" "_law_bag" s__law_bag f fd) : FnOk P w K mg base CX0 (k + 1) f fd ["script"] (spBag K) := by
  refine F.ok sc__law_bag (fun vs H Q E h => ?_) (fun cdv A outer s H vs Q E hr h => ?_)
  · obtain ⟨_, _, rfl, _⟩ := h
    rfl
  · obtain ⟨a, ns, rfl, hS, hl, q⟩ := h
    refine ⟨_, PSs.nox (pss_cons (ps_set (i := 1) sc__law_bag.nd rfl (.inl rfl) pe_int)
    (pss_cons (ps_for PassesOwn.never rfl (pi_seq (pe_slice sl_list (pv 0) po_none (po_some pe_int))) (pg_name (i := 2) sc__law_bag.nd rfl (.inl rfl))
      (pss_one (ps_set (i := 1) sc__law_bag.nd rfl (.inl rfl) (pe_op op_modP (pe_callTy call_int1 (by rfl) T.b_int (by decide +kernel) (pa_cons (pe_op op_add (pe_op op_add (pe_op op_mul (pv 1) pe_int) (pe_op op_modP (pe_callTy call_int1 (by rfl) T.b_int (by decide +kernel) (pa_cons (pv 2) pa_nil)) pe_int)) pe_int) pa_nil)) pe_int))))
    (pss_one (ps_ret (pe_lst (pa_cons (pe_callTy call_list_of (by rfl) T.b_list (by decide +kernel) (pa_cons (pe_slice sl_list (pv 0) po_none (po_some pe_int)) pa_nil)) (pa_cons pe_int (pa_cons pe_int (pa_cons (pv 1) (pa_cons pe_int pa_nil)))))))))), ?_⟩
    dsimp only [tNext, tSeq, gName, tAsg, tRet]
    have ec : cutV (ns.map V.int) none (some 63) = (ns.take 63).map V.int := by
      rw [show (63 : Int) = ((63 : Nat) : Int) from rfl, cut_take, List.map_take]
    refine for_G (K := K) (xs := (ns.take 63).map V.int) (fun L H1 => Same H H1 ∧ H1 L = some (.lst ((ns.take 63).map V.int)))
      (fun L H1 i σ' H' => H' = H1 ∧ ∃ bl s2, σ' = [some (.ref a), some (.int bl), s2] ∧ 0 ≤ bl ∧ bl < 2147483549) (fun R r => ?_) (fun L H1 e => sqA_l e.2) (fun L H1 e => ?_) (fun L H1 e i σ' H' pv x hx => ?_) (fun L H1 e i x σ' H2 hx pv => ?_) (fun L H1 e σ' H' pv => ?_)
    · refine ⟨_, rfl, 63, rfl, a, _, rfl, hS, fun L hL => ?_⟩
      rw [ec]
      exact r L _ ⟨Same.new hL, upd_same⟩
    · exact ⟨rfl, _, _, rfl, by decide, by decide⟩
    · rw [pv.1]
      exact hx
    · obtain ⟨rfl, bl, s2, rfl, hb0, hb1⟩ := pv
      rw [List.getElem?_map] at hx
      obtain ⟨c, _, rfl⟩ := Option.map_eq_some_iff.mp hx
      refine ⟨_, rfl, _, _, rfl, rfl, .inl ⟨by omega, by omega⟩, _, rfl, .inl ⟨c, rfl, _, _, rfl, rfl, (by show (0 : Int) < 2147483629; decide), ?_⟩⟩
      refine ⟨_, _, rfl, rfl, _, _, rfl, rfl, .inl ⟨_, rfl, _, _, rfl, rfl, (by show (0 : Int) < 2147483549; decide), ?_⟩⟩
      exact ⟨rfl, _, _, rfl, Int.emod_nonneg _ (by decide), Int.emod_lt_of_pos _ (by decide)⟩
    · obtain ⟨rfl, bl, s2, rfl, hb0, hb1⟩ := pv
      refine ⟨_, rfl, 63, rfl, a, _, rfl, e.1.seq hS, fun L2 hL2 => ?_⟩
      rw [ec]
      refine ⟨L2, _, rfl, .inl (SqL.of upd_same), fun L3 hL3 => ?_⟩
      refine ⟨_, rfl, (by show 5 ≤ sizeLine; decide), fun b hb => ?_⟩
      refine q b L3 _ (e.1.trans ((Same.new hL2).trans ((Same.new hL3).trans (Same.new hb)))) ⟨0, 0, bl, 0, ns.take 63, upd_same, ne_of_none upd_same hb, ?_, by decide, hb0, hb1⟩
      exact Same.new hb _ _ upd_same
def spDraw : Sp := fun vs H Q _ => ∃ (b A : Addr) (m : Int), vs = [.ref b, .int m] ∧ BagOk H b A ∧ (0 < m ∧ m < 1073741824) ∧ ∀ d H', 0 ≤ d → d < m → BagOk H' b A → Keeps b H H' → Q (.int d) H'
theorem ok_law_draw (T : Tx mg) (F : Fun K "_law_draw" "_law_draw" s__law_draw f fd) : FnOk P w K mg base CX0 (k + 1) f fd ["bag", "below"] spDraw := by
  refine F.ok sc__law_draw (fun vs H Q E h => ?_) (fun cdv A outer s H vs Q E hr h => ?_)
  · obtain ⟨_, _, _, rfl, _⟩ := h
    rfl
  · obtain ⟨b, Ac, m, rfl, hb, hm, q⟩ := h
    obtain ⟨i, c, bl, n, cells, hB, nAb, hA, hi, hbl⟩ := hb.ex
    refine ⟨_, PSs.nox (pss_cons (ps_asg (pe_op op_add (pe_ix ix_A (pv 0) pe_int (fun _ _ => rfl)) pe_int) (pg_sub (pv 0) pe_int set_list))
    (pss_cons (ps_cut (ps_if (PW.pt (pw_and (pt_cmpR op_eq (pe_ix ix_A (pv 0) pe_int (fun _ _ => rfl)) pe_int (nomark _)) (pw_and1 (pt_cmpR op_lt (pe_ix ix_A (pv 0) pe_int (fun _ _ => rfl)) (pe_callB call_len_seq (by rfl) T.b_len PySem.boot_len (pa_cons (pe_ix ix_A (pv 0) pe_int (fun _ _ => rfl)) pa_nil)) (nomark _))))) (pss_cons (ps_set (i := 2) sc__law_draw.nd rfl (.inl rfl) (pe_callTy call_int1 (by rfl) T.b_int (by decide +kernel) (pa_cons (pe_ix ix_A (pe_ix ix_A (pv 0) pe_int (fun _ _ => rfl)) (pe_ix ix_A (pv 0) pe_int (fun _ _ => rfl)) (fun _ _ => rfl)) pa_nil)))
    (pss_cons (ps_asg (pe_op op_add (pe_ix ix_A (pv 0) pe_int (fun _ _ => rfl)) pe_int) (pg_sub (pv 0) pe_int set_list))
    (pss_one (ps_if (pt_cmpR op_ge (pv 2) (pe_op op_pow pe_int pe_int) (nomark _)) (pss_one (ps_asg (pv 2) (pg_sub (pv 0) pe_int set_list))) (pss_one (ps_asg (pe_op op_modP (pe_callTy call_int1 (by rfl) T.b_int (by decide +kernel) (pa_cons (pe_op op_add (pe_op op_add (pe_op op_mul (pe_ix ix_A (pv 0) pe_int (fun _ _ => rfl)) pe_int) (pe_op op_mul (pe_op op_modP (pe_callTy call_int1 (by rfl) T.b_int (by decide +kernel) (pa_cons (pv 2) pa_nil)) pe_int) pe_int)) pe_int) pa_nil)) pe_int) (pg_sub (pv 0) pe_int set_list))))))) pss_nil))
    (pss_cons (ps_if (pt_cmpR op_gt (pe_ix ix_A (pv 0) pe_int (fun _ _ => rfl)) pe_int (nomark _)) (pss_cons (ps_set (i := 3) sc__law_draw.nd rfl (.inl rfl) (pe_op op_modP (pe_callTy call_int1 (by rfl) T.b_int (by decide +kernel) (pa_cons (pe_ix ix_A (pv 0) pe_int (fun _ _ => rfl)) pa_nil)) (pv 1)))
    (pss_cons (ps_asg (pe_op op_fdivP (pe_ix ix_A (pv 0) pe_int (fun _ _ => rfl)) (pv 1)) (pg_sub (pv 0) pe_int set_list))
    (pss_one (ps_ret (pv 3))))) pss_nil)
    (pss_cons (ps_set (i := 4) sc__law_draw.nd rfl (.inl rfl) (pe_callTy call_int1 (by rfl) T.b_int (by decide +kernel) (pa_cons (pe_ix ix_A (pv 0) pe_int (fun _ _ => rfl)) pa_nil)))
    (pss_cons (ps_asg (pe_op op_modP (pe_callTy call_int1 (by rfl) T.b_int (by decide +kernel) (pa_cons (pe_op op_add (pe_op op_add (pe_op op_add (pe_op op_pow (pv 4) pe_int) (pe_op op_mul (pv 4) pe_int)) (pe_op op_mul (pe_ix ix_A (pv 0) pe_int (fun _ _ => rfl)) pe_int)) pe_int) pa_nil)) pe_int) (pg_sub (pv 0) pe_int set_list))
    (pss_one (ps_ret (pe_op op_modP (pe_callTy call_int1 (by rfl) T.b_int (by decide +kernel) (pa_cons (pe_op op_add (pe_op op_fdivP (pe_ix ix_A (pv 0) pe_int (fun _ _ => rfl)) pe_int) (pe_op op_mul (pe_op op_modP (pe_callTy call_int1 (by rfl) T.b_int (by decide +kernel) (pa_cons (pe_ix ix_A (pv 0) pe_int (fun _ _ => rfl)) pa_nil)) pe_int) pe_int)) pa_nil)) (pv 1))))))))), ?_⟩
    refine ⟨_, rfl, rix_A (sqA_l hB) rfl ⟨_, _, rfl, rfl, ?_⟩⟩
    refine ⟨_, rfl, b, _, 4, 4, rfl, rfl, hB, rfl, ?_⟩
    have kp : Keeps b H (upd H b (.lst ((bagL Ac i c bl n).set 4 (.int (n + 1))))) := Keeps.upd
    have hB1 : upd H b (.lst ((bagL Ac i c bl n).set 4 (.int (n + 1)))) b = some (.lst (bagL Ac i c bl (n + 1))) := upd_same
    have hA1 := kp _ _ nAb hA
    revert hB1 hA1 kp
    generalize upd H b (.lst ((bagL Ac i c bl n).set 4 (.int (n + 1)))) = H1
    intro kp hB1 hA1
    refine ⟨fun σ H' => ∃ i c bl n s2, σ = [some (.ref b), some (.int m), s2, none, none] ∧ Keeps b H H' ∧ H' b = some (.lst (bagL Ac i c bl n)) ∧ 0 ≤ i ∧ (0 ≤ bl ∧ bl < 2147483549), ?_, ?_⟩
    · refine ⟨_, rfl, rix_A (sqA_l hB1) rfl ⟨rfl, _, rfl, ?_⟩⟩
      rw [decI]
      have fin0 : ∃ i' c' bl' n' s2, L2.start N__law_draw [V.ref b, V.int m] = [some (.ref b), some (.int m), s2, none, none] ∧ Keeps b H H1 ∧ H1 b = some (.lst (bagL Ac i' c' bl' n')) ∧ 0 ≤ i' ∧ (0 ≤ bl' ∧ bl' < 2147483549) := ⟨i, c, bl, n + 1, none, rfl, kp, hB1, hi, hbl⟩
      by_cases hc : c = 0
      · rw [decide_eq_true hc]
        refine iteT ?_
        refine ⟨_, rfl, rix_A (sqA_l hB1) rfl ⟨_, rfl, rix_A (sqA_l hB1) rfl ⟨Ac, _, rfl, .inl (SqL.of hA1), _, _, rfl, rfl, _, rfl, ?_⟩⟩⟩
        rw [List.length_map]
        by_cases hlt : i < (cells.length : Int)
        · rw [decide_eq_true hlt]
          refine iteT ?_
          have hj : i.toNat < cells.length := by omega
          have at_ : atI (cells.map V.int) i = some (.int (cells.getD i.toNat 0)) := by
            have := at_getD (rs := cells) hj
            rw [show ((i.toNat : Nat) : Int) = i by omega] at this
            exact this
          refine ⟨_, rfl, rix_A (sqA_l hB1) rfl ⟨_, rfl, rix_A (sqA_l hB1) rfl (rix_A (sqA_l hA1) at_ (.inl ⟨_, rfl, ?_⟩))⟩⟩
          refine ⟨_, rfl, rix_A (sqA_l hB1) rfl ⟨_, _, rfl, rfl, ?_⟩⟩
          refine ⟨_, rfl, b, _, 1, 1, rfl, rfl, hB1, rfl, ?_⟩
          have kp2 : Keeps b H (upd H1 b (.lst ((bagL Ac i c bl (n + 1)).set 1 (.int (i + 1))))) := kp.trans Keeps.upd
          have hB2 : upd H1 b (.lst ((bagL Ac i c bl (n + 1)).set 1 (.int (i + 1)))) b = some (.lst (bagL Ac (i + 1) c bl (n + 1))) := upd_same
          revert kp2 hB2
          generalize upd H1 b (.lst ((bagL Ac i c bl (n + 1)).set 1 (.int (i + 1)))) = H2
          intro kp2 hB2
          refine ⟨_, rfl, _, _, rfl, rfl, ⟨by decide, by decide, by decide⟩, _, _, rfl, rfl, _, rfl, ?_⟩
          refine ite2 (fun _ => ?_) (fun _ => ?_)
          · refine ⟨_, rfl, _, rfl, b, _, 2, 2, rfl, rfl, hB2, rfl, ?_⟩
            exact ⟨i + 1, _, bl, n + 1, _, rfl, kp2.trans Keeps.upd, upd_same, by omega, hbl⟩
          · refine ⟨_, rfl, rix_A (sqA_l hB2) rfl ⟨_, _, rfl, rfl, .inl ⟨by omega, by omega⟩, ?_⟩⟩
            refine ⟨_, rfl, .inl ⟨_, rfl, _, _, rfl, rfl, (by show (0 : Int) < 2147483563; decide), _, _, rfl, rfl, .inr ⟨by decide, by decide⟩, ?_⟩⟩
            refine ⟨_, _, rfl, rfl, _, _, rfl, rfl, .inl ⟨_, rfl, _, _, rfl, rfl, (by show (0 : Int) < 2147483549; decide), ?_⟩⟩
            refine ⟨_, rfl, b, _, 3, 3, rfl, rfl, hB2, rfl, ?_⟩
            exact ⟨i + 1, c, _, n + 1, _, rfl, kp2.trans Keeps.upd, upd_same, by omega, Int.emod_nonneg _ (by decide), Int.emod_lt_of_pos _ (by decide)⟩
        · rw [decide_eq_false hlt]
          exact iteF fin0
      · rw [decide_eq_false hc]
        exact iteF fin0
    · rintro σ H2 ⟨i, c, bl, n, s2, rfl, kp2, hB2, hi, hbl⟩
      have hA2 := kp2 _ _ nAb hA
      have fin : ∀ H3 i c bl n, Keeps b H2 H3 → H3 b = some (.lst (bagL Ac i c bl n)) → 0 ≤ i → (0 ≤ bl ∧ bl < 2147483549) → BagOk H3 b Ac := fun H3 i c bl n k e h1 h2 => ⟨i, c, bl, n, cells, e, nAb, k _ _ nAb hA2, h1, h2⟩
      refine ⟨_, rfl, rix_A (sqA_l hB2) rfl ⟨_, _, rfl, rfl, _, rfl, ?_⟩⟩
      refine ite2 (fun hc => ?_) (fun hc => ?_)
      · refine ⟨_, rfl, rix_A (sqA_l hB2) rfl (.inl ⟨_, rfl, _, rfl, _, _, rfl, rfl, hm.1, ?_⟩)⟩
        refine ⟨_, rfl, rix_A (sqA_l hB2) rfl ⟨_, rfl, _, _, rfl, rfl, hm, ?_⟩⟩
        refine ⟨_, rfl, b, _, 2, 2, rfl, rfl, hB2, rfl, ?_⟩
        exact ⟨_, rfl, q _ _ (Int.emod_nonneg _ (by omega)) (Int.emod_lt_of_pos _ hm.1) (fin _ i _ bl n Keeps.upd upd_same hi hbl) (kp2.trans Keeps.upd)⟩
      · refine ⟨_, rfl, rix_A (sqA_l hB2) rfl (.inl ⟨_, rfl, ?_⟩)⟩
        refine ⟨_, rfl, _, _, rfl, rfl, ⟨by decide, by decide, by omega⟩, _, rfl, _, _, rfl, rfl, .inr ⟨by decide, by decide⟩, ?_⟩
        refine ⟨_, _, rfl, rfl, _, rfl, rix_A (sqA_l hB2) rfl ⟨_, _, rfl, rfl, .inr ⟨by decide, by decide⟩, ?_⟩⟩
        refine ⟨_, _, rfl, rfl, _, _, rfl, rfl, .inl ⟨_, rfl, _, _, rfl, rfl, (by show (0 : Int) < 2147483549; decide), ?_⟩⟩
        refine ⟨_, rfl, b, _, 3, 3, rfl, rfl, hB2, rfl, ?_⟩
        have n0 : ∀ x : Int, 0 ≤ x % 2147483549 := fun x => Int.emod_nonneg _ (by decide)
        have n1 : ∀ x : Int, x % 2147483549 < 2147483549 := fun x => Int.emod_lt_of_pos _ (by decide)
        have hB3 : ∀ x : Int, upd H2 b (.lst ((bagL Ac i c bl n).set 3 (.int x))) b = some (.lst (bagL Ac i c x n)) := fun x => upd_same
        refine ⟨_, rfl, rix_A (sqA_l (hB3 _)) rfl ⟨_, _, rfl, rfl, ⟨by show (0 : Int) < 97; decide, by show (97 : Int) < 1073741824; decide⟩, ?_⟩⟩
        refine ⟨_, rfl, rix_A (sqA_l (hB3 _)) rfl (.inl ⟨_, rfl, _, _, rfl, rfl, (by show (0 : Int) < 7907; decide), _, _, rfl, rfl, .inr ⟨by decide, by decide⟩, ?_⟩)⟩
        refine ⟨_, _, rfl, rfl, .inl ⟨_, rfl, _, rfl, _, _, rfl, rfl, hm.1, ?_⟩⟩
        exact q _ _ (Int.emod_nonneg _ (by omega)) (Int.emod_lt_of_pos _ hm.1) (fin _ i _ _ n Keeps.upd (hB3 _) hi ⟨n0 _, n1 _⟩) (kp2.trans Keeps.upd)
def spOf (K : PySem.W.Frag) : Sp := fun vs H Q _ => ∃ (b A a : Addr) (xs : List V), vs = [.ref b, .ref a] ∧ BagOk H b A ∧ SqA K H a xs ∧ (0 < xs.length ∧ xs.length ≤ 1000000) ∧ a ≠ b ∧ (∀ H', Keeps b H H' → SqA K H' a xs) ∧ ∀ x H', x ∈ xs → BagOk H' b A → Keeps b H H' → Q x H'
theorem ok_law_of (T : Tx mg) (C_law_draw : Cal P w K mg base k "_law_draw" ["bag", "below"] spDraw) (F : Fun K "_law_of" "_law_of" s__law_of f fd) : FnOk P w K mg base CX0 (k + 1) f fd ["bag", "some"] (spOf K) := by
  refine F.ok sc__law_of (fun vs H Q E h => ?_) (fun cdv A outer s H vs Q E hr h => ?_)
  · obtain ⟨_, _, _, _, rfl, _⟩ := h
    rfl
  · obtain ⟨b, Ac, a, xs, rfl, hb, hS, hl, nab, hk, q⟩ := h
    refine ⟨_, PSs.nox (pss_one (ps_ret (pe_ix ix_A (pv 1) (pe_u C_law_draw hr (pa_cons (pv 0) (pa_cons (pe_callB call_len_seq (by rfl) T.b_len PySem.boot_len (pa_cons (pv 1) pa_nil)) pa_nil))) (fun _ _ => rfl)))), ?_⟩
    refine ⟨_, rfl, _, rfl, _, rfl, a, xs, rfl, ?_, b, Ac, xs.length, rfl, hb, ⟨by omega, by omega⟩, fun d H' h0 h1 hb' kp => ?_⟩
    · rcases hS with h | h
      · exact .inl h
      · exact .inr h
    · have hd : d.toNat < xs.length := by omega
      have e : xs[d.toNat]? = some xs[d.toNat] := List.getElem?_eq_getElem hd
      refine rix_A (hk _ kp) (v := xs[d.toNat]) ?_ (q _ _ (List.getElem_mem hd) hb' kp)
      have := atI_nat e
      rw [show ((d.toNat : Nat) : Int) = d by omega] at this
      exact this
end
end C53
set_option Elab.async false
set_option linter.all false
set_option maxRecDepth 100000
set_option maxHeartbeats 1000000
namespace C53
open PySem PySem.Spec PyProof.Rows L2 Ex
theorem perm_ins {α : Type} (xs : List α) (i : Nat) (y : α) : (xs.take i ++ [y] ++ xs.drop i).Perm (xs ++ [y]) := by
  rw [List.append_assoc]
  have h1 : (xs.take i ++ ([y] ++ xs.drop i)).Perm (xs.take i ++ (xs.drop i ++ [y])) := List.Perm.append_left _ List.perm_append_comm
  rw [← List.append_assoc (xs.take i) (xs.drop i), List.take_append_drop] at h1
  exact h1
section
variable {P : Program} {w : World} {K : PySem.W.Frag} {mg : Str → Option Value} {base : Heap} {k : Nat} {f : Addr} {fd : FuncData}
def spMixed (K : PySem.W.Frag) : Sp := fun vs H Q _ => ∃ (b A a : Addr) (rs : List Int), vs = [.ref b, .ref a] ∧ BagOk H b A ∧ SqX K H a (rs.map V.int) ∧ rs.length ≤ 900 ∧ a ≠ b ∧ ∀ (L : Addr) (H' : Hp) (ys : List Int), ys.Perm rs → H L = none → H' L = some (.lst (ys.map V.int)) → BagOk H' b A → Keeps b H H' → Q (.ref L) H'
theorem ok_law_mixed (T : Tx mg) (C_law_draw : Cal P w K mg base k "_law_draw" ["bag", "below"] spDraw) (F : Fun K "_law_mixed" "_law_mixed" s__law_mixed f fd) : FnOk P w K mg base CX0 (k + 1) f fd ["bag", "some"] (spMixed K) := by
  refine F.ok sc__law_mixed (fun vs H Q E h => ?_) (fun cdv A outer s H vs Q E hr h => ?_)
  · obtain ⟨_, _, _, _, rfl, _⟩ := h
    rfl
  · obtain ⟨b, Ac, a, rs, rfl, hb, hS, hl, nab, q⟩ := h
    refine ⟨_, PSs.nox (pss_cons (ps_set (i := 2) sc__law_mixed.nd rfl (.inl rfl) (pe_lst pa_nil))
    (pss_cons (ps_for PassesOwn.never rfl (pi_seq (pv 1)) (pg_name (i := 3) sc__law_mixed.nd rfl (.inl rfl))
      (pss_one (ps_expr (pe_bm PySem.F.plainAttrs_list PySem.F.slot_list_insert PySem.F.type_list_insert mt_insert (pv 2) (pa_cons (pe_u C_law_draw hr (pa_cons (pv 0) (pa_cons (pe_op op_add (pe_callB call_len_seq (by rfl) T.b_len PySem.boot_len (pa_cons (pv 2) pa_nil)) pe_int) pa_nil))) (pa_cons (pv 3) pa_nil))))))
    (pss_one (ps_ret (pv 2))))), ?_⟩
    refine ⟨(by show 0 ≤ sizeLine; decide), fun L hL => ?_⟩
    obtain ⟨_, _, _, _, _, hbb, _, hAc, _⟩ := hb.ex
    have nLb : L ≠ b := (ne_of_none hbb hL).symm
    have kL : ∀ {H1 : Hp}, Keeps L H H1 → Same H H1 := fun k => k.same hL
    dsimp only [tNext, tSeq, gName, tAsg, tRet]
    refine for_G (K := K) (xs := rs.map V.int) (fun a' H1 => a' = a ∧ H1 = upd H L (.lst []))
      (fun a' H1 i σ' H' => (∃ s3, σ' = [some (.ref b), some (.ref a), some (.ref L), s3]) ∧ (∃ ys : List Int, ys.Perm (rs.take i) ∧ H' L = some (.lst (ys.map V.int))) ∧ BagOk H' b Ac ∧ (∀ x o, x ≠ b → H x = some o → H' x = some o)) (fun R r => ⟨_, rfl, r _ _ ⟨rfl, rfl⟩⟩) (fun a' H1 e => ?_) (fun a' H1 e => ?_) (fun a' H1 e i σ' H' pv x hx => ?_) (fun a' H1 e i x σ' H2 hx pv => ?_) (fun a' H1 e σ' H' pv => ?_)
    · obtain ⟨rfl, rfl⟩ := e
      exact (hS.same (Same.new hL)).a
    · obtain ⟨rfl, rfl⟩ := e
      exact ⟨⟨none, rfl⟩, ⟨[], .refl _, upd_same⟩, hb.same (Same.new hL), fun x o n e => Same.new hL _ _ e⟩
    · obtain ⟨rfl, rfl⟩ := e
      have naL : a' ≠ L := by
        rcases hS with h | h
        · exact ne_of_none h hL
        · exact ne_of_none h hL
      rw [upd_ne naL] at hx
      exact pv.2.2.2 _ _ nab hx
    · obtain ⟨⟨s3, rfl⟩, ⟨ys, hp, hy⟩, hbo, hk⟩ := pv
      rw [List.getElem?_map] at hx
      obtain ⟨z, hz, rfl⟩ := Option.map_eq_some_iff.mp hx
      have yl : ys.length ≤ 900 := by
        rw [hp.length_eq, List.length_take]
        omega
      refine ⟨_, rfl, .inl ⟨rfl, _, SqL.of hy⟩, ?_⟩
      refine ⟨_, rfl, _, rfl, L, _, rfl, .inl (SqL.of hy), _, _, rfl, rfl, b, Ac, _, rfl, hbo, ⟨by omega, by rw [List.length_map]; omega⟩, fun d H3 h0 h1 hb3 kp => ⟨_, rfl, ?_⟩⟩
      have hy3 := kp _ _ nLb hy
      rw [List.length_map] at h1
      refine ⟨L, _, d, _, rfl, rfl, hy3, ?_, h0, by omega, ?_⟩
      · rw [List.length_map]
        exact small1000 (by omega)
      · refine ⟨⟨_, rfl⟩, ⟨ys.take d.toNat ++ [z] ++ ys.drop d.toNat, ?_, ?_⟩, ?_, fun x o n e => ?_⟩
        · rw [List.take_add_one, hz]
          exact (perm_ins ys d.toNat z).trans (hp.append_right _)
        · rw [upd_same]
          simp [vN]
        · obtain ⟨i, c, bl, n, cells, g1, g2, g3, g4⟩ := hb3.ex
          exact ⟨i, c, bl, n, cells, by rw [upd_ne nLb.symm]; exact g1, g2, by rw [upd_ne (ne_of_none hAc hL)]; exact g3, g4⟩
        · have nxL : x ≠ L := ne_of_none e hL
          rw [upd_ne nxL]
          exact kp _ _ n (hk _ _ n e)
    · obtain ⟨⟨s3, rfl⟩, ⟨ys, hp, hy⟩, hbo, hk⟩ := pv
      rw [List.length_map, List.take_length] at hp
      exact ⟨_, rfl, q L H' ys hp hL hy hbo fun x o n e => hk x o n e⟩
/-! ### gcd, divisors, cut, weighed -/
theorem absN (i : Int) : (if i < 0 then -i else i) = ((i.natAbs : Nat) : Int) := by split <;> omega
theorem gN_take {zs : List Int} {i : Nat} {z : Int} (h : zs[i]? = some z) : gN (zs.take (i + 1)) = Nat.gcd (gN (zs.take i)) z.natAbs := by
  unfold gN
  rw [List.take_add_one, h, List.foldl_append]
  rfl
def spGcd (K : PySem.W.Frag) : Sp := fun vs H Q _ => ∃ (a : Addr) (zs : List Int), vs = [.ref a] ∧ SqA K H a (zs.map V.int) ∧ ∀ H', Same H H' → Q (.int (gN zs : Nat)) H'
theorem ok_law_gcd (T : Tx mg) (F : Fun K "_law_gcd" "_law_gcd" s__law_gcd f fd) : FnOk P w K mg base CX0 (k + 1) f fd ["some"] (spGcd K) := by
  refine F.ok sc__law_gcd (fun vs H Q E h => ?_) (fun cdv A outer s H vs Q E hr h => ?_)
  · obtain ⟨_, _, rfl, _⟩ := h
    rfl
  · obtain ⟨a, zs, rfl, hS, q⟩ := h
    refine ⟨_, PSs.nox (pss_cons (ps_set (i := 1) sc__law_gcd.nd rfl (.inl rfl) pe_int)
    (pss_cons (ps_for PassesOwn.never rfl (pi_seq (pv 0)) (pg_name (i := 2) sc__law_gcd.nd rfl (.inl rfl))
      (pss_cons (ps_par (i := 3) (j := 4) rfl sc__law_gcd.nd rfl rfl (by decide) rfl rfl (pa_cons (pe_callB call_abs (by rfl) T.b_abs (by decide +kernel) (pa_cons (pv 2) pa_nil)) (pa_cons (pv 1) pa_nil)) (by rfl))
    (pss_cons (ps_while PassesOwn.never (pt_cmpR op_gt (pv 4) pe_int (nomark _))
      (pss_cons (ps_set (i := 5) sc__law_gcd.nd rfl (.inl rfl) (pe_op op_modP (pe_callTy call_int1 (by rfl) T.b_int (by decide +kernel) (pa_cons (pv 3) pa_nil)) (pv 4)))
    (pss_one (ps_par (i := 3) (j := 4) rfl sc__law_gcd.nd rfl rfl (by decide) rfl rfl (pa_cons (pv 4) (pa_cons (pv 5) pa_nil)) (by rfl)))))
    (pss_one (ps_set (i := 1) sc__law_gcd.nd rfl (.inl rfl) (pv 3))))))
    (pss_one (ps_ret (pv 1))))), ?_⟩
    dsimp only [tNext, tSeq, gName, tAsg, tRet]
    refine for_A (K := K) (a := a) (xs := zs.map V.int) (fun i σ' H' => Same H H' ∧ ∃ s2 s3 s4 s5, σ' = [some (.ref a), some (.int (gN (zs.take i) : Nat)), s2, s3, s4, s5]) ?_ hS ?_ (fun i σ' H' p x e => p.1 _ _ e) (fun i x σ H' hx p => ?_) (fun σ H' p => ?_)
    · exact fun R r => ⟨_, rfl, r⟩
    · exact ⟨Same.refl _, _, _, _, _, rfl⟩
    · obtain ⟨e1, s2, s3, s4, s5, rfl⟩ := p
      rw [List.getElem?_map] at hx
      obtain ⟨z, hz, rfl⟩ := Option.map_eq_some_iff.mp hx
      refine ⟨_, rfl, z, rfl, _, rfl, _, _, rfl, ?_⟩
      rw [absN]
      refine while_by (fun σ' H' => Same H H' ∧ ∃ (l r : Nat) (s5 : Option V), σ' = [some (.ref a), some (.int (gN (zs.take i) : Nat)), some (.int z), some (.int (l : Int)), some (.int (r : Int)), s5] ∧ Nat.gcd l r = Nat.gcd z.natAbs (gN (zs.take i)))
        (fun σ' _ => match σ' with | [_, _, _, _, some (V.int r), _] => r.toNat | _ => 0) ?_ ?_ ?_
      · exact ⟨e1, _, _, _, rfl, rfl⟩
      · rintro σ1 H1 ⟨e2, l, r, s5, rfl, hg⟩
        refine ⟨_, rfl, _, _, rfl, rfl, _, rfl, ?_⟩
        by_cases hr0 : 0 < r
        · rw [show decide ((0 : Int) < (r : Int)) = true from decide_eq_true (by omega)]
          refine iteT ?_
          refine ⟨_, rfl, .inl ⟨_, rfl, _, rfl, _, _, rfl, rfl, (show (0 : Int) < (r : Int) by omega), ?_⟩⟩
          refine ⟨_, rfl, _, rfl, _, _, rfl, ?_⟩
          refine ⟨⟨e2, r, l % r, _, rfl, ?_⟩, ?_⟩
          · rw [← hg, Nat.gcd_comm l r, Nat.gcd_rec r l, Nat.gcd_comm]
          · show ((l : Int) % (r : Int)).toNat < ((r : Int)).toNat
            have := Nat.mod_lt l hr0
            rw [← Int.natCast_emod]
            omega
        · rw [show decide ((0 : Int) < (r : Int)) = false from decide_eq_false (by omega)]
          refine iteF ?_
          have r0 : r = 0 := by omega
          subst r0
          rw [Nat.gcd_zero_right] at hg
          refine ⟨_, rfl, e2, some (.int z), some (.int (l : Int)), some (.int (0 : Nat)), s5, ?_⟩
          have hgn : gN (zs.take (i + 1)) = l := by rw [gN_take hz, Nat.gcd_comm, ← hg]
          rw [hgn]
          rfl
      · intro σ H Q Q' hq h
        obtain ⟨a1, b1, i, j, r1, r2, c, ec, h⟩ := h
        exact ⟨a1, b1, i, j, r1, r2, c, ec, hq _ _ h⟩
    · obtain ⟨e1, s2, s3, s4, s5, rfl⟩ := p
      rw [List.length_map, List.take_length]
      exact ⟨_, rfl, q H' e1⟩
def spDivsL : Sp := fun vs H Q _ => ∃ n : Nat, vs = [.int (n : Int)] ∧ n ≤ 1000000 ∧ ∀ L, H L = none → Q (.ref L) (upd H L (.lst ((dv n n).map vN)))
theorem ok_law_divisors (T : Tx mg) (F : Fun K "_law_divisors" "_law_divisors" s__law_divisors f fd) : FnOk P w K mg base CX0 (k + 1) f fd ["top"] spDivsL := by
  refine F.ok sc__law_divisors (fun vs H Q E h => ?_) (fun cdv A outer s H vs Q E hr h => ?_)
  · obtain ⟨_, rfl, _⟩ := h
    rfl
  · obtain ⟨n, rfl, hn, q⟩ := h
    refine ⟨_, (pss_one (ps_ret (pe_lc (own := [("one", 1)]) (g := gName 1) rfl sc__law_divisors.nd (pi_range2 rfl T.b_range (pa_cons pe_int (pa_cons (pe_op op_add (pv 0) pe_int) pa_nil))) (blkOk_by (own := [("one", 1)]) (N := N__law_divisors) (sc := defScope s__law_divisors) (by decide +kernel)) (fun _ _ _ _ _ => pg_name (i := 1) sc__law_divisors.nd rfl (.inl rfl)) (fun _ _ _ _ _ => (pts_one (pt_cmpR op_eq (pe_op op_modP (pe_callTy call_int1 (by rfl) T.b_int (by decide +kernel) (pa_cons (pv 0) pa_nil)) (pv 1)) pe_int (nomark _)))) (fun _ _ _ _ _ => (pv 1))))), ?_⟩
    refine ⟨_, rfl, _, _, rfl, rfl, 1, (n : Int) + 1, rfl, ⟨by decide, by decide, by omega, by omega⟩, fun D hD => ?_⟩
    rw [show ((n : Int) + 1 - 1).toNat = n by omega]
    refine lc_range (lo := 1) (n := n) (fun i H' => H' = upd H D (.lst ((dv n i).map vN))) rfl (fun i H' hi e => ⟨rfl, ?_⟩) fun H' e => ?_
    · subst e
      refine ⟨_, rfl, .inl ⟨_, rfl, _, rfl, _, _, rfl, rfl, (show (0 : Int) < 1 + (i : Int) by omega), rfl, _, rfl, ?_⟩⟩
      rw [decI, show decide (((n : Int)) % (1 + (i : Int)) = 0) = decide (n % (i + 1) = 0) by rw [show (1 + (i : Int)) = ((i + 1 : Nat) : Int) by omega, ← Int.natCast_emod, decide_eq_decide]; exact Int.ofNat_eq_zero]
      by_cases hd : n % (i + 1) = 0
      · rw [decide_eq_true hd]
        refine iteT ?_
        refine ⟨_, rfl, _, upd_same, ?_, ?_⟩
        · rw [List.length_map]
          exact Nat.lt_of_le_of_lt (dv_len n i) (Nat.lt_of_le_of_lt (show i ≤ 1000000 by omega) (by decide))
        · rw [upd_upd, dv_succ, if_pos hd, List.map_append]
          rw [show V.int (1 + (i : Int)) = vN (i + 1) by unfold vN; rw [show (1 + (i : Int)) = ((i + 1 : Nat) : Int) by omega]]
          rfl
      · rw [decide_eq_false hd]
        refine iteF ?_
        rw [dv_succ, if_neg hd, List.append_nil]
    · rw [e]
      exact q D hD
def spCut : Sp := fun vs H Q _ => ∃ mm n : Int, vs = [.int mm, .int n] ∧ 0 ≤ mm ∧ Q (.int (red' mm n)) H
theorem ok_law_cut (T : Tx mg) (F : Fun K "_law_cut" "_law_cut" s__law_cut f fd) : FnOk P w K mg base CX0 (k + 1) f fd ["mm", "worth"] spCut := by
  refine F.ok sc__law_cut (fun vs H Q E h => ?_) (fun cdv A outer s H vs Q E hr h => ?_)
  · obtain ⟨_, _, rfl, _⟩ := h
    rfl
  · obtain ⟨mm, n, rfl, hm, q⟩ := h
    refine ⟨_, (pss_one (ps_ret (pe_ifExp (pt_truth (pv 0) (by intro _; rfl)) (pe_op op_modP (pe_callTy call_int1 (by rfl) T.b_int (by decide +kernel) (pa_cons (pv 1) pa_nil)) (pv 0)) (pv 1)))), ?_⟩
    refine ⟨_, rfl, _, rfl, ?_⟩
    unfold red' at q
    by_cases e : mm = 0
    · subst e
      rw [if_pos rfl] at q
      exact iteF ⟨_, rfl, q⟩
    · rw [if_neg e] at q
      rw [show (mm != 0) = true by simpa using e]
      exact iteT ⟨_, rfl, .inl ⟨_, rfl, _, rfl, _, _, rfl, rfl, (show (0 : Int) < mm by omega), q⟩⟩
def spWeighed : Sp := fun vs H Q _ => ∃ nn mm s : Int, vs = [.int nn, .int mm, .int s] ∧ (0 < s ∧ s < 1073741824) ∧ Q (.bl (hasBal nn mm s)) H
theorem ok_law_weighed (T : Tx mg) (F : Fun K "_law_weighed" "_law_weighed" s__law_weighed f fd) : FnOk P w K mg base CX0 (k + 1) f fd ["nn", "mm", "step"] spWeighed := by
  refine F.ok sc__law_weighed (fun vs H Q E h => ?_) (fun cdv A outer s H vs Q E hr h => ?_)
  · obtain ⟨_, _, _, rfl, _⟩ := h
    rfl
  · obtain ⟨nn, mm, sh, rfl, hs, q⟩ := h
    refine ⟨_, (pss_one (ps_ret (pe_and (pe_cmpR op_eq (pe_op op_modP (pe_callTy call_int1 (by rfl) T.b_int (by decide +kernel) (pa_cons (pe_op op_fdivP (pv 0) (pv 2)) pa_nil)) pe_int) pe_int (nomark _)) (pe_one (pe_cmpR op_eq (pe_op op_modP (pe_callTy call_int1 (by rfl) T.b_int (by decide +kernel) (pa_cons (pe_op op_fdivP (pv 1) (pv 2)) pa_nil)) pe_int) pe_int (nomark _)))))), ?_⟩
    unfold hasBal at q
    refine ⟨_, rfl, _, rfl, _, _, rfl, rfl, hs, .inl ⟨_, rfl, _, _, rfl, rfl, (by show (0 : Int) < 2; decide), rfl, _, rfl, ?_⟩⟩
    rw [decI]
    refine ite2 (fun e => ?_) (fun e => ?_)
    · rw [e] at q
      refine ⟨_, rfl, _, rfl, _, _, rfl, rfl, hs, .inl ⟨_, rfl, _, _, rfl, rfl, (by show (0 : Int) < 2; decide), rfl, ?_⟩⟩
      show Q (.bl (decide (V.int _ = V.int _))) H
      rw [decI]
      exact q
    · rw [Bool.not_eq_true] at e
      rw [e] at q
      exact q
end
end C53
set_option Elab.async false
set_option linter.all false
set_option maxRecDepth 100000
set_option maxHeartbeats 1000000
namespace C53
open PySem PySem.Spec PyProof.Rows L2 Ex
abbrev s__law_kind_text : Stmt := topS 62
abbrev N__law_kind_text : List Str := ["kd", "nn", "mm", "pairs", "edge", "worth", "step", "sign", "lines", "one"]
theorem sc__law_kind_text : FnScope N__law_kind_text ["kd"] (defScope s__law_kind_text) := ⟨rfl, rfl, rfl, by decide +kernel, rfl, by decide +kernel, by decide +kernel⟩
abbrev s__law_sign : Stmt := topS 63
abbrev N__law_sign : List Str := ["sign"]
theorem sc__law_sign : FnScope N__law_sign ["sign"] (defScope s__law_sign) := ⟨rfl, rfl, rfl, by decide +kernel, rfl, by decide +kernel, by decide +kernel⟩
/-! ### lists of numbers and nothings, compared -/
def pO : Option Int → PyData
  | none => .none
  | some i => .int i
theorem shaped_o (l : List (Option Int)) : SeqAt.shaped (.list (l.map pO)) = true := by
  have h1 : PyData.canLayAll0 (l.map pO) = true := by
    induction l with
    | nil => rfl
    | cons x r ih =>
      show (PyData.canLay0 (pO x) && PyData.canLayAll0 (r.map pO)) = true
      rw [ih]
      cases x <;> rfl
  have h2 : PyData.depthAll (l.map pO) = 0 := by
    clear h1
    induction l with
    | nil => rfl
    | cons x r ih =>
      show max (PyData.depth (pO x)) (PyData.depthAll (r.map pO)) = 0
      rw [ih]
      cases x <;> rfl
  unfold SeqAt.shaped
  rw [show PyData.canLay0 (.list (l.map pO)) = PyData.canLayAll0 (l.map pO) from rfl, h1, show PyData.depth (.list (l.map pO)) = PyData.depthAll (l.map pO) + 1 from rfl, h2]
  rfl
theorem eqv_o : ∀ l m : List (Option Int), PyData.eqvAll (l.map pO) (m.map pO) = decide (l = m)
  | [], [] => rfl
  | [], y :: m => by
    rw [decide_eq_false (by simp)]
    rfl
  | x :: l, [] => by
    rw [decide_eq_false (by simp)]
    rfl
  | x :: l, y :: m => by
    show (PyData.eqv (pO x) (pO y) && PyData.eqvAll (l.map pO) (m.map pO)) = _
    rw [eqv_o l m]
    cases x with
    | none =>
      cases y with
      | none =>
        show (true && _) = _
        rw [Bool.true_and, decide_eq_decide]
        simp
      | some j =>
        show (false && _) = _
        rw [Bool.false_and, decide_eq_false (by simp)]
    | some i =>
      cases y with
      | none =>
        show (false && _) = _
        rw [Bool.false_and, decide_eq_false (by simp)]
      | some j =>
        show ((i == j) && _) = _
        by_cases e : i = j
        · subst e
          rw [beq_self_eq_true, Bool.true_and, decide_eq_decide]
          simp
        · rw [show (i == j) = false by simpa using e, Bool.false_and, decide_eq_false (by simp [e])]
theorem dpO {K : PySem.W.Frag} {H : Hp} : ∀ l : List (Option Int), DpAll K H (l.map optV) (l.map pO)
  | [] => .nil
  | none :: l => .cons .non (dpO l)
  | some i :: l => .cons (.int i) (dpO l)
theorem mapI (l : List Int) : l.map V.int = (l.map some).map optV := by
  rw [List.map_map]
  rfl
theorem rd_eqO {K : PySem.W.Frag} {H : Hp} {a b : Addr} {l m : List (Option Int)} {Q : VK} (h1 : SqL K H a (l.map optV)) (h2 : SqL K H b (m.map optV)) (q : Q (.bl (decide (l = m))) H) : rEqD K (.ref a) (.ref b) H Q := by
  refine ⟨_, _, .lst h1 (dpO l), .lst h2 (dpO m), shaped_o l, shaped_o m, ?_⟩
  rw [show PyData.eqv (.list (l.map pO)) (.list (m.map pO)) = PyData.eqvAll (l.map pO) (m.map pO) from rfl, eqv_o]
  exact q
theorem rd_neO {K : PySem.W.Frag} {H : Hp} {a b : Addr} {l m : List (Option Int)} {Q : VK} (h1 : SqL K H a (l.map optV)) (h2 : SqL K H b (m.map optV)) (q : Q (.bl (!decide (l = m))) H) : rNeD K (.ref a) (.ref b) H Q := by
  refine ⟨_, _, .lst h1 (dpO l), .lst h2 (dpO m), shaped_o l, shaped_o m, ?_⟩
  rw [show PyData.eqv (.list (l.map pO)) (.list (m.map pO)) = PyData.eqvAll (l.map pO) (m.map pO) from rfl, eqv_o]
  exact q
theorem some_inj {l m : List Int} : l.map some = m.map some ↔ l = m := by
  constructor
  · intro h
    exact (List.map_inj_right fun a b => Option.some.inj).mp h
  · intro h
    rw [h]
theorem rd_eqI {K : PySem.W.Frag} {H : Hp} {a b : Addr} {l m : List Int} {Q : VK} (h1 : SqL K H a (l.map V.int)) (h2 : SqL K H b (m.map V.int)) (q : Q (.bl (decide (l = m))) H) : rEqD K (.ref a) (.ref b) H Q := by
  rw [mapI] at h1 h2
  refine rd_eqO h1 h2 ?_
  rw [show decide (l.map some = m.map some) = decide (l = m) by rw [decide_eq_decide]; exact some_inj]
  exact q
theorem rd_neI {K : PySem.W.Frag} {H : Hp} {a b : Addr} {l m : List Int} {Q : VK} (h1 : SqL K H a (l.map V.int)) (h2 : SqL K H b (m.map V.int)) (q : Q (.bl (!decide (l = m))) H) : rNeD K (.ref a) (.ref b) H Q := by
  rw [mapI] at h1 h2
  refine rd_neO h1 h2 ?_
  rw [show decide (l.map some = m.map some) = decide (l = m) by rw [decide_eq_decide]; exact some_inj]
  exact q
/-- a kind as the law's tuple -/
def kdL (nn mm : Int) (kd : Kd) (te : Addr) : List V := [.int nn, .int mm, .int kd.h, .ref te, optV kd.m, optV kd.s, optV kd.b]
structure IsTup (H : Hp) (t : Addr) (nn mm : Int) (kd : Kd) : Prop where
  ex : ∃ te, H t = some (.tup (kdL nn mm kd te)) ∧ H te = some (.tup (kd.rs.map V.int))
theorem IsTup.same {H H' : Hp} {t : Addr} {nn mm : Int} {kd : Kd} (e : Same H H') (h : IsTup H t nn mm kd) : IsTup H' t nn mm kd := let ⟨te, h1, h2⟩ := h.ex; ⟨te, e _ _ h1, e _ _ h2⟩
section
variable {P : Program} {w : World} {K : PySem.W.Frag} {mg : Str → Option Value} {base : Heap} {k : Nat} {f : Addr} {fd : FuncData}
def spSign : Sp := fun vs H Q _ => ∃ b : Option Int, vs = [optV b] ∧ (b = none ∨ b = some 1 ∨ b = some 0 ∨ b = some (-1)) ∧ Q (.str (bw b)) H
theorem ok_law_sign (F : Fun K "_law_sign" "_law_sign" s__law_sign f fd) : FnOk P w K mg base CX0 (k + 1) f fd ["sign"] spSign := by
  refine F.ok sc__law_sign (fun vs H Q E h => ?_) (fun cdv A outer s H vs Q E hr h => ?_)
  · obtain ⟨_, rfl, _⟩ := h
    rfl
  · obtain ⟨b, rfl, hb, q⟩ := h
    refine ⟨_, (pss_one (ps_ret (pe_ifExp (pt_cmpR op_isN (pv 0) pe_non (nomark _)) pe_str (pe_ifExp (pt_cmpR op_eq (pv 0) pe_int (nomark _)) pe_str (pe_ifExp (pt_cmpR op_eq (pv 0) (pe_un un_neg pe_int) (nomark _)) pe_str pe_str))))), ?_⟩
    refine ⟨_, rfl, rfl, _, rfl, ?_⟩
    rw [optN]
    rcases hb with rfl | rfl | rfl | rfl
    · exact iteT q
    · exact iteF ⟨_, rfl, rfl, _, rfl, iteT q⟩
    · exact iteF ⟨_, rfl, rfl, _, rfl, iteF ⟨_, rfl, 1, rfl, rfl, _, rfl, iteF q⟩⟩
    · exact iteF ⟨_, rfl, rfl, _, rfl, iteF ⟨_, rfl, 1, rfl, rfl, _, rfl, iteT q⟩⟩
/-- "name " + str(i) -/
theorem rd_sj {te : TE} {a : Str} {i : Int} {σ : L2.St} {H : Hp} {Q : VK} (ha : a.length ≤ 100) (hi : Lil i) (ht : ∀ R : VK, R (.int i) H → te σ H R) (q : Q (.str (a ++ tI i)) H) :
    tOp (fun x y H Q => ∃ i j, x = .str i ∧ y = .str j ∧ i.length + j.length ≤ sizeLine ∧ Q (.str (i ++ j)) H) (tC (.str a)) (tCB (fun xs H Q => ∃ i, xs = [V.int i] ∧ i.natAbs.log2 < 1920 ∧ Q (.str (toString i)) H) (tCons te tNil)) σ H Q := by
  refine ht _ ⟨i, rfl, hi, a, _, rfl, rfl, ?_, q⟩
  have := len_tI hi
  exact Nat.le_trans (Nat.add_le_add ha this) (by decide)
theorem rims_join {rs : List Int} (h : rs ≠ []) : rimLine rs = ("rims " : Str) ++ Str.join " " (rs.map tI) := by
  cases rs with
  | nil => exact absurd rfl h
  | cons r t =>
    show ("rims" : Str) ++ " " ++ Str.join " " ((r :: t).map tI) = _
    rw [show (("rims" : Str) ++ " ") = "rims " by decide]
def spTextL : Sp := fun vs H Q _ => ∃ (t : Addr) (nn mm : Int) (kd : Kd), vs = [.ref t] ∧ IsTup H t nn mm kd ∧ TxtOk nn mm kd ∧ kd.rs ≠ [] ∧ (2 ≤ kd.h → kd.b = none ∨ kd.b = some 1 ∨ kd.b = some 0 ∨ kd.b = some (-1)) ∧ ∀ H', Same H H' → Q (.str (kTxt nn mm kd)) H'
theorem ok_law_kind_text (T : Tx mg) (C_law_sign : Cal P w K mg base k "_law_sign" ["sign"] spSign) (F : Fun K "_law_kind_text" "_law_kind_text" s__law_kind_text f fd) : FnOk P w K mg base CX0 (k + 1) f fd ["kd"] spTextL := by
  refine F.ok sc__law_kind_text (fun vs H Q E h => ?_) (fun cdv A outer s H vs Q E hr h => ?_)
  · obtain ⟨_, _, _, _, rfl, _⟩ := h
    rfl
  · obtain ⟨t, nn, mm, kd, rfl, ht, ok, hne, hbb, q⟩ := h
    obtain ⟨te, ht, hte⟩ := ht.ex
    refine ⟨_, (pss_cons (ps_asg (pv 0) (pg_tup (by rfl) (pgs_cons (pg_name (i := 1) sc__law_kind_text.nd rfl (.inl rfl)) (pgs_cons (pg_name (i := 2) sc__law_kind_text.nd rfl (.inl rfl)) (pgs_cons (pg_name (i := 3) sc__law_kind_text.nd rfl (.inl rfl)) (pgs_cons (pg_name (i := 4) sc__law_kind_text.nd rfl (.inl rfl)) (pgs_cons (pg_name (i := 5) sc__law_kind_text.nd rfl (.inl rfl)) (pgs_cons (pg_name (i := 6) sc__law_kind_text.nd rfl (.inl rfl)) (pgs_cons (pg_name (i := 7) sc__law_kind_text.nd rfl (.inl rfl)) pgs_nil)))))))))
    (pss_cons (ps_set (i := 8) sc__law_kind_text.nd rfl (.inl rfl) (pe_lst (pa_cons pe_str (pa_cons (pe_op op_add_str pe_str (pe_callTy call_str_int (by rfl) T.b_str (by decide +kernel) (pa_cons (pv 1) pa_nil))) (pa_cons (pe_op op_add_str pe_str (pe_callTy call_str_int (by rfl) T.b_str (by decide +kernel) (pa_cons (pv 2) pa_nil))) (pa_cons (pe_op op_add_str pe_str (pe_callTy call_str_int (by rfl) T.b_str (by decide +kernel) (pa_cons (pv 3) pa_nil))) (pa_cons (pe_op op_add_str pe_str (pe_join pe_str (pe_lc (own := [("one", 9)]) (g := gName 9) rfl sc__law_kind_text.nd (pi_seq (pv 4)) (blkOk_by (own := [("one", 9)]) (N := N__law_kind_text) (sc := defScope s__law_kind_text) (by decide +kernel)) (fun _ _ _ _ _ => pg_name (i := 9) sc__law_kind_text.nd rfl (.inl rfl)) (fun _ _ _ _ _ => pts_nil) (fun _ _ _ _ _ => (pe_callTy call_str_int (by rfl) T.b_str (by decide +kernel) (pa_cons (pv 9) pa_nil)))))) pa_nil)))))))
    (pss_cons (ps_if (pt_cmpR op_eq (pv 3) pe_int (nomark _)) (pss_one (ps_expr (pe_bm PySem.F.plainAttrs_list PySem.F.slot_list_append PySem.F.type_list_append mt_append (pv 8) (pa_cons (pe_op op_add_str pe_str (pe_callTy call_str_int (by rfl) T.b_str (by decide +kernel) (pa_cons (pv 5) pa_nil))) pa_nil)))) pss_nil)
    (pss_cons (ps_if (pt_cmpR op_gt (pv 3) pe_int (nomark _)) (pss_one (ps_expr (pe_bm PySem.F.plainAttrs_list PySem.F.slot_list_extend PySem.F.type_list_extend mt_extend (pv 8) (pa_cons (pe_lst (pa_cons (pe_op op_add_str pe_str (pe_callTy call_str_int (by rfl) T.b_str (by decide +kernel) (pa_cons (pv 6) pa_nil))) (pa_cons (pe_op op_add_str pe_str (pe_u C_law_sign hr (pa_cons (pv 7) pa_nil))) pa_nil))) pa_nil)))) pss_nil)
    (pss_one (ps_ret (pe_op op_add_str (pe_join pe_str (pe_op op_cat (pv 8) (pe_lst (pa_cons pe_str pa_nil)))) pe_str))))))), ?_⟩
    refine ⟨_, rfl, t, _, rfl, SqT.of ht, rfl, ?_⟩
    refine ⟨_, _, rfl, _, _, rfl, _, _, rfl, _, _, rfl, _, _, rfl, _, _, rfl, _, _, rfl, rfl, ?_⟩
    dsimp only [tNext, tSeq, gName, tAsg, tRet, tLst, tCons, tNil, tC]
    refine rd_sj (a := "arms ") (by decide) ok.n (fun R r => ⟨_, rfl, r⟩) ?_
    refine rd_sj (a := "modulus ") (by decide) ok.m (fun R r => ⟨_, rfl, r⟩) ?_
    refine rd_sj (a := "handles ") (by decide) ok.h (fun R r => ⟨_, rfl, r⟩) ?_
    refine ⟨⟨_, rfl⟩, ?_⟩
    refine tlc_pure (K := K) (a := te) (xs := kd.rs.map V.int) (onI fun i => .str (tI i)) (fun R r => ⟨_, rfl, r⟩) (sqA_t hte) (len1000 ok.l) (fun _ => rfl) (fun x hx H' e Q' q' => ?_) fun D hD => ?_
    · obtain ⟨r, hr, rfl⟩ := List.mem_map.mp hx
      exact ⟨_, rfl, r, rfl, ok.r r hr, q'⟩
    rw [onI_map]
    refine ⟨" ", D, kd.rs.map tI, rfl, rfl, .inl (SqL.of (by rw [upd_same, List.map_map]; rfl)), ?_, ?_⟩
    · have := rim_sum ok.l ok.r
      simp only [rimStrs, List.map_append, List.sum_append, List.length_append, List.map_cons, List.map_nil, List.sum_cons, List.sum_nil, List.length_cons, List.length_nil, Nat.add_mul] at this
      omega
    rw [tj]
    refine ⟨_, _, rfl, rfl, ?_, ?_⟩
    · have := rl_len ok.l ok.r
      rw [rims_join hne, Str.length_append] at this
      exact Nat.le_trans this (by decide)
    rw [← rims_join hne]
    refine ⟨(by show 5 ≤ sizeLine; decide), fun L hL => ?_⟩
    have e1 := (Same.new (o := HO.lst (kd.rs.map fun i => V.str (tI i))) hD).trans (Same.new (o := HO.lst [V.str "kind", V.str ("arms " ++ tI nn), V.str ("modulus " ++ tI mm), V.str ("handles " ++ tI kd.h), V.str (rimLine kd.rs)]) hL)
    have hL1 : upd (upd H D (.lst (kd.rs.map fun i => V.str (tI i)))) L (.lst [V.str "kind", V.str ("arms " ++ tI nn), V.str ("modulus " ++ tI mm), V.str ("handles " ++ tI kd.h), V.str (rimLine kd.rs)]) L = some (.lst [V.str "kind", V.str ("arms " ++ tI nn), V.str ("modulus " ++ tI mm), V.str ("handles " ++ tI kd.h), V.str (rimLine kd.rs)]) := upd_same
    have nL : H L = none := Same.nn (Same.new hD) hL
    revert e1 hL1
    generalize upd (upd H D (.lst (kd.rs.map fun i => V.str (tI i)))) L (.lst [V.str "kind", V.str ("arms " ++ tI nn), V.str ("modulus " ++ tI mm), V.str ("handles " ++ tI kd.h), V.str (rimLine kd.rs)]) = H1
    intro e1 hL1
    have kl8 : ∀ (ys : List Str), ys ++ [("done" : Str)] = kLines nn mm kd → (ys.map V.str).length + 1 ≤ sizeLine := fun ys e => by
      have := kl_sum ok
      rw [← e] at this
      simp only [List.length_append, List.length_cons, List.length_nil] at this
      rw [List.length_map]
      exact Nat.le_trans (show _ ≤ 16777216 - 8 by omega) (by decide)
    refine ⟨_, rfl, rfl, _, rfl, ?_⟩
    rw [decI]
    by_cases h1 : kd.h = 1
    · obtain ⟨i, em, hi⟩ := ok.m1 h1
      rw [decide_eq_true h1]
      refine iteT ?_
      refine ⟨_, rfl, .inl ⟨rfl, _, SqL.of hL1⟩, ?_⟩
      refine rd_sj (a := "measure ") (i := i) (by decide) hi (fun R r => ⟨_, by rw [em]; rfl, r⟩) ?_
      refine ⟨L, _, _, rfl, rfl, hL1, (by show 5 < sizeLine; decide), ?_⟩
      refine ⟨_, rfl, _, _, rfl, rfl, _, rfl, ?_⟩
      rw [decide_eq_false (by omega)]
      refine iteF ?_
      refine ⟨⟨_, rfl⟩, _, rfl, (by show 1 ≤ sizeLine; decide), fun M hM => ⟨L, M, _, _, rfl, rfl, Same.new hM _ _ upd_same, upd_same, kl8 ["kind", "arms " ++ tI nn, "modulus " ++ tI mm, "handles " ++ tI kd.h, rimLine kd.rs, "measure " ++ tI i] ?_, fun N hN => ?_⟩⟩
      · unfold kLines
        rw [if_pos h1, if_neg (by omega), em]
        rfl
      refine ⟨"\n", N, kLines nn mm kd, rfl, rfl, .inl (SqL.of ?_), kl_sum' ok, _, _, rfl, rfl, ?_, ?_⟩
      · rw [upd_same]
        unfold kLines
        rw [if_pos h1, if_neg (by omega), em]
        rfl
      · rw [tj]
        exact kl_len ok
      · rw [tj]
        exact q _ ((Keeps.trans (Same.keeps e1) Keeps.upd).same nL |>.trans ((Same.new hM).trans (Same.new hN)))
    · rw [decide_eq_false h1]
      refine iteF ?_
      refine ⟨_, rfl, _, _, rfl, rfl, _, rfl, ?_⟩
      by_cases h2 : 2 ≤ kd.h
      · obtain ⟨i, em, hi⟩ := ok.s2 h2
        rw [decide_eq_true (show (1 : Int) < kd.h by omega)]
        refine iteT ?_
        refine ⟨_, rfl, .inl ⟨rfl, _, SqL.of hL1⟩, ?_⟩
        dsimp only [tLst, tCons, tNil, tC]
        refine rd_sj (a := "share ") (i := i) (by decide) hi (fun R r => ⟨_, by rw [em]; rfl, r⟩) ?_
        refine ⟨_, rfl, kd.b, rfl, hbb h2, _, _, rfl, rfl, ?_, ?_⟩
        · have := bw_len kd.b
          exact Nat.le_trans (Nat.add_le_add (show (("balance " : Str)).length ≤ 8 by decide) this) (by decide)
        refine ⟨(by show 2 ≤ sizeLine; decide), fun Z hZ => ?_⟩
        have nLZ : L ≠ Z := ne_of_none hL1 hZ
        have hLZ := Same.new (o := HO.lst [V.str ("share " ++ tI i), V.str ("balance " ++ bw kd.b)]) hZ _ _ hL1
        refine ⟨L, Z, _, _, rfl, rfl, hLZ, upd_same, (by show 7 ≤ sizeLine; decide), ?_⟩
        refine ⟨⟨_, rfl⟩, _, rfl, (by show 1 ≤ sizeLine; decide), fun M hM => ⟨L, M, _, _, rfl, rfl, Same.new hM _ _ upd_same, upd_same, kl8 ["kind", "arms " ++ tI nn, "modulus " ++ tI mm, "handles " ++ tI kd.h, rimLine kd.rs, "share " ++ tI i, "balance " ++ bw kd.b] ?_, fun N hN => ?_⟩⟩
        · unfold kLines
          rw [if_neg h1, if_pos h2, em]
          rfl
        refine ⟨"\n", N, kLines nn mm kd, rfl, rfl, .inl (SqL.of ?_), kl_sum' ok, _, _, rfl, rfl, ?_, ?_⟩
        · rw [upd_same]
          unfold kLines
          rw [if_neg h1, if_pos h2, em]
          rfl
        · rw [tj]
          exact kl_len ok
        · rw [tj]
          exact q _ ((Keeps.trans (Same.keeps (e1.trans (Same.new hZ))) Keeps.upd).same nL |>.trans ((Same.new hM).trans (Same.new hN)))
      · rw [decide_eq_false (show ¬ (1 : Int) < kd.h by omega)]
        refine iteF ?_
        refine ⟨⟨_, rfl⟩, _, rfl, (by show 1 ≤ sizeLine; decide), fun M hM => ⟨L, M, _, _, rfl, rfl, Same.new hM _ _ hL1, upd_same, kl8 ["kind", "arms " ++ tI nn, "modulus " ++ tI mm, "handles " ++ tI kd.h, rimLine kd.rs] ?_, fun N hN => ?_⟩⟩
        · unfold kLines
          rw [if_neg h1, if_neg h2]
          rfl
        refine ⟨"\n", N, kLines nn mm kd, rfl, rfl, .inl (SqL.of ?_), kl_sum' ok, _, _, rfl, rfl, ?_, ?_⟩
        · rw [upd_same]
          unfold kLines
          rw [if_neg h1, if_neg h2]
          rfl
        · rw [tj]
          exact kl_len ok
        · rw [tj]
          exact q _ (e1.trans ((Same.new hM).trans (Same.new hN)))
end
end C53
set_option Elab.async false
set_option linter.all false
set_option maxRecDepth 100000
set_option maxHeartbeats 1000000
namespace C53
open PySem PySem.Spec PyProof.Rows L2 Ex
abbrev s__law_broken : Stmt := topS 61
abbrev N__law_broken : List Str := ["kd", "nn", "mm", "pairs", "edge", "worth", "step", "sign", "some", "odd", "one"]
theorem sc__law_broken : FnScope N__law_broken ["kd"] (defScope s__law_broken) := ⟨rfl, rfl, rfl, by decide +kernel, rfl, by decide +kernel, by decide +kernel⟩
def lawOk (nn mm : Int) (kd : Kd) : Bool :=
  if kd.h = 0 then true else if kd.h = 1 then decide ((oget kd.m).toNat ∣ gN (mm :: kd.rs.map (· + nn))) else decide ((oget kd.s).toNat ∣ gN (nn :: mm :: kd.rs)) && balOk nn mm kd.rs (oget kd.s) kd.b
structure LawIn (nn mm : Int) (kd : Kd) : Prop where
  l : kd.rs.length ≤ 900
  n : -1000 < nn ∧ nn < 1000
  m : 0 ≤ mm
  h : 0 ≤ kd.h ∧ kd.h < 1000
  p : kd.rs.Pairwise (· ≤ ·)
  r : rimsOk mm kd.rs = true
  s : sumOk nn mm kd.h kd.rs = true
  c : kd.h = 0 ∨ (kd.h = 1 ∧ ∃ d : Nat, kd.m = some (d : Int)) ∨ (1 < kd.h ∧ ∃ d : Nat, kd.s = some (d : Int) ∧ (0 < d ∧ d < 1000) ∧ (kd.b = none ∨ kd.b = some 1 ∨ kd.b = some 0 ∨ kd.b = some (-1)))
theorem sum_red {nn mm h : Int} {rs : List Int} (hs : sumOk nn mm h rs = true) : red' mm (rs.sum - nn * (2 - 2 * h - rs.length)) = 0 := by
  unfold sumOk dvd' dueSum at hs
  unfold red'
  split at hs
  · rename_i e
    rw [if_pos e]
    exact of_decide_eq_true hs
  · rename_i e
    rw [if_neg e]
    exact of_decide_eq_true hs
theorem filt_any {p : Int → Bool} (zs : List Int) : ((zs.map V.int).filter (fun v => match v with | .int i => p i | _ => false)).isEmpty = !zs.any p := by
  induction zs with
  | nil => rfl
  | cons z r ih =>
    rw [List.map_cons, List.filter_cons, List.any_cons]
    show (if p z = true then _ else _ : List V).isEmpty = _
    cases p z with
    | true => rfl
    | false => simpa using ih
def onB (p : Int → Bool) : V → Bool
  | .int i => p i
  | _ => false
theorem filt_onB {p : Int → Bool} (zs : List Int) : (zs.map V.int).filter (onB p) = (zs.filter p).map V.int := by
  induction zs with
  | nil => rfl
  | cons z r ih =>
    rw [List.map_cons, List.filter_cons, List.filter_cons, show onB p (V.int z) = p z from rfl, ih]
    cases p z <;> rfl
theorem filt_emp {p : Int → Bool} (zs : List Int) : (!(zs.filter p).isEmpty) = zs.any p := by
  induction zs with
  | nil => rfl
  | cons z r ih =>
    rw [List.filter_cons, List.any_cons]
    cases p z with
    | true => rfl
    | false => simpa using ih
section
variable {K : PySem.W.Frag} {te : TE} {vs : List Nat} {σ : L2.St} {H : Hp} {j : Nat}
/-- [x for x in xs if t] -/
theorem tlc_filt {tl : TE} {tt : TT} {xs : List V} {Q : VK} (p : V → Bool) (hl : ∀ R : VK, (∀ a H1, Same H H1 → SqA K H1 a xs → R (.ref a) H1) → tl σ H R) (hz : xs.length < sizeLine) (hw : ∀ x, wipe ((wipe σ vs).set j (some x)) vs = wipe σ vs)
    (htt : ∀ x ∈ xs, ∀ H1, Same H H1 → ∀ Q' : Bool → Hp → Prop, (∀ H2, Same H1 H2 → Q' (p x) H2) → tt ((wipe σ vs).set j (some x)) H1 Q') (hel : ∀ x ∈ xs, ∀ H1, ∀ Q' : VK, Q' x H1 → te ((wipe σ vs).set j (some x)) H1 Q')
    (hd : ∀ D H2, Same H H2 → H D = none → H2 D = some (.lst (xs.filter p)) → Q (.ref D) H2) : tLc (iSeq K tl) (gName j) tt te vs σ H Q := by
  refine hl _ fun a H1 e1 src => ⟨a, rfl, ?_⟩
  let Pv : Addr → Nat → Hp → Prop := fun D i H' => Keeps D H1 H' ∧ H' D = some (.lst ((xs.take i).filter p))
  have p0 : ∀ D, H1 D = none → Pv D 0 (upd H1 D (.lst [])) := fun D hD => ⟨Keeps.upd, upd_same⟩
  have turn : ∀ D, H1 D = none → ∀ i x H', xs[i]? = some x → Pv D i H' → gName j x (wipe σ vs) H' fun σ2 H2 => wipe σ2 vs = wipe σ vs ∧ tt σ2 H2 fun b H3 =>
      if b = true then te σ2 H3 fun y H4 => ∃ acc, H4 D = some (.lst acc) ∧ acc.length < sizeLine ∧ Pv D (i + 1) (upd H4 D (.lst (acc ++ [y]))) else Pv D (i + 1) H3 := by
    intro D hD i x H' hx ⟨k1, h1⟩
    refine ⟨hw x, ?_⟩
    have hm := List.mem_of_getElem? hx
    refine htt x hm _ (e1.trans (k1.same hD)) _ fun H3 e3 => ?_
    have h3 := e3 _ _ h1
    have k3 := k1.trans (Same.keeps e3)
    cases hp : p x with
    | true =>
      refine iteT (hel x hm _ _ ⟨_, h3, ?_, k3.trans Keeps.upd, ?_⟩)
      · refine Nat.lt_of_le_of_lt (List.length_filter_le _ _) (Nat.lt_of_le_of_lt ?_ hz)
        rw [List.length_take]
        exact Nat.min_le_right _ _
      · rw [upd_same, List.take_add_one, hx, List.filter_append]
        simp [hp]
    | false =>
      refine iteF ⟨k3, ?_⟩
      rw [h3, List.take_add_one, hx, List.filter_append]
      simp [hp]
  have stop : ∀ D, H1 D = none → ∀ H', Pv D xs.length H' → Q (.ref D) H' := fun D hD H' ⟨k1, h1⟩ => by
    rw [List.take_length] at h1
    exact hd D H' (e1.trans (k1.same hD)) (Same.nn e1 hD) h1
  rcases src with src | src
  · refine .inl ⟨⟨xs, src⟩, fun D hD => lc_list (K := K) (a := a) (xs := xs) (Pv D) (p0 D hD) (fun i H' _ e => (Keeps.same e.1 hD).seq src) (turn D hD) (stop D hD)⟩
  · refine .inr ⟨⟨xs, src⟩, fun D hD => lc_tup (K := K) (a := a) (xs := xs) (Pv D) (p0 D hD) (fun i H' _ e => ?_) (turn D hD) (stop D hD)⟩
    rcases src with h' | h'
    · rcases h' with h' | ⟨o, h'⟩
      · exact .inl (.inl (Keeps.same e.1 hD _ _ h'))
      · exact .inl (.inr ⟨o, Keeps.same e.1 hD _ _ h'⟩)
    · exact .inr h'
end
theorem meas_any {zs : List Int} {d : Nat} (hd : 0 < d) : (zs.any fun z => !decide (z % (d : Int) = 0)) = !decide (d ∣ gN zs) := by
  rw [Bool.eq_iff_iff, List.any_eq_true]
  constructor
  · rintro ⟨z, hz, h⟩
    rw [Bool.not_eq_true', decide_eq_false_iff_not] at h
    rw [Bool.not_eq_true', decide_eq_false_iff_not, dvd_gN]
    exact fun q => h (emod_of.mpr (q z hz))
  · intro h
    rw [Bool.not_eq_true', decide_eq_false_iff_not, dvd_gN] at h
    have : ∃ z, z ∈ zs ∧ ¬ d ∣ z.natAbs := by
      by_cases q : ∃ z, z ∈ zs ∧ ¬ d ∣ z.natAbs
      · exact q
      · exact absurd (fun z hz => by
          by_cases q2 : d ∣ z.natAbs
          · exact q2
          · exact absurd ⟨z, hz, q2⟩ q) h
    obtain ⟨z, hz, h⟩ := this
    refine ⟨z, hz, ?_⟩
    rw [Bool.not_eq_true', decide_eq_false_iff_not]
    exact fun q => h (emod_of.mp q)
section
variable {P : Program} {w : World} {K : PySem.W.Frag} {mg : Str → Option Value} {base : Heap} {k : Nat} {f : Addr} {fd : FuncData}
def spLBroken : Sp := fun vs H Q _ => ∃ (t : Addr) (nn mm : Int) (kd : Kd), vs = [.ref t] ∧ IsTup H t nn mm kd ∧ LawIn nn mm kd ∧ ∀ r H', Same H H' → decide (r = V.non) = lawOk nn mm kd → Q r H'
theorem ok_law_broken (T : Tx mg) (C_law_cut : Cal P w K mg base k "_law_cut" ["mm", "worth"] spCut) (C_law_gcd : Cal P w K mg base k "_law_gcd" ["some"] (spGcd K)) (C_law_weighed : Cal P w K mg base k "_law_weighed" ["nn", "mm", "step"] spWeighed) (F : Fun K "_law_broken" "_law_broken" s__law_broken f fd) :
    FnOk P w K mg base CX0 (k + 1) f fd ["kd"] spLBroken := by
  refine F.ok sc__law_broken (fun vs H Q E h => ?_) (fun cdv A outer s H vs Q E hr h => ?_)
  · obtain ⟨_, _, _, _, rfl, _⟩ := h
    rfl
  · obtain ⟨t, nn, mm, kd, rfl, ht, li, q⟩ := h
    obtain ⟨te, ht, hte⟩ := ht.ex
    refine ⟨_, PSs.nox (pss_cons (ps_asg (pv 0) (pg_tup (by rfl) (pgs_cons (pg_name (i := 1) sc__law_broken.nd rfl (.inr rfl)) (pgs_cons (pg_name (i := 2) sc__law_broken.nd rfl (.inl rfl)) (pgs_cons (pg_name (i := 3) sc__law_broken.nd rfl (.inl rfl)) (pgs_cons (pg_name (i := 4) sc__law_broken.nd rfl (.inl rfl)) (pgs_cons (pg_name (i := 5) sc__law_broken.nd rfl (.inr rfl)) (pgs_cons (pg_name (i := 6) sc__law_broken.nd rfl (.inr rfl)) (pgs_cons (pg_name (i := 7) sc__law_broken.nd rfl (.inl rfl)) pgs_nil)))))))))
    (pss_cons (ps_cut (ps_if (PW.pt (pw_or (pt_not (pt_truth (pv 4) (by intro _; rfl))) (pw_or (pt_cmpR (op_neD (by exact hr.units)) (pe_callTy call_list_of (by rfl) T.b_list (by decide +kernel) (pa_cons (pv 4) pa_nil)) (pe_callB cr_sortA (by rfl) T.b_sorted (by decide +kernel) (pa_cons (pv 4) pa_nil)) (nomark _)) (pw_or1 (PW.pt (pw_and (pt_truth (pv 2) (by intro _; rfl)) (pw_and1 (PW.pt (pw_or (pt_cmpR op_lt (pe_ix ix_A (pv 4) pe_int (fun _ _ => rfl)) pe_int (nomark _)) (pw_or1 (pt_cmpR op_ge (pe_ix ix_A (pv 4) (pe_un un_neg pe_int) (fun _ _ => rfl)) (pv 2) (nomark _)))))))))))) (pss_one (ps_ret pe_str)) pss_nil))
    (pss_cons (ps_if (pt_cmpR op_ne (pe_u C_law_cut hr (pa_cons (pv 2) (pa_cons (pe_op op_sub (pe_callB (cr_sumA rfl) (by rfl) T.b_sum boot_sum (pa_cons (pv 4) pa_nil)) (pe_op op_mul (pv 1) (pe_op op_sub (pe_op op_sub pe_int (pe_op op_mul pe_int (pv 3))) (pe_callB call_len_seq (by rfl) T.b_len PySem.boot_len (pa_cons (pv 4) pa_nil))))) pa_nil))) pe_int (nomark _)) (pss_one (ps_ret pe_str)) pss_nil)
    (pss_cons (ps_cut (ps_if (pt_cmpR op_eq (pv 3) pe_int (nomark _)) (pss_cons (ps_set (i := 8) sc__law_broken.nd rfl (.inl rfl) (pe_op op_cat (pe_lst (pa_cons (pv 2) pa_nil)) (pe_lc (own := [("one", 10)]) (g := gName 10) rfl sc__law_broken.nd (pi_seq (pv 4)) (blkOk_by (own := [("one", 10)]) (N := N__law_broken) (sc := defScope s__law_broken) (by decide +kernel)) (fun _ _ _ _ _ => pg_name (i := 10) sc__law_broken.nd rfl (.inl rfl)) (fun _ _ _ _ _ => pts_nil) (fun _ _ _ _ _ => (pe_op op_add (pv 10) (pv 1))))))
    (pss_one (ps_if (PW.pt (pw_or (pt_cmpR op_lt (pv 5) pe_int (nomark _)) (pw_or (PW.pt (pw_and (pt_cmpR op_eq (pv 5) pe_int (nomark _)) (pw_and1 (pt_cmpR op_ne (pe_u C_law_gcd hr (pa_cons (pv 8) pa_nil)) pe_int (nomark _))))) (pw_or1 (PW.pt (pw_and (pt_cmpR op_gt (pv 5) pe_int (nomark _)) (pw_and1 (pt_truth (pe_lc (own := [("one", 10)]) (g := gName 10) rfl sc__law_broken.nd (pi_seq (pv 8)) (blkOk_by (own := [("one", 10)]) (N := N__law_broken) (sc := defScope s__law_broken) (by decide +kernel)) (fun _ _ _ _ _ => pg_name (i := 10) sc__law_broken.nd rfl (.inl rfl)) (fun _ _ _ _ _ => (pts_one (pt_cmpR op_ne (pe_op op_modP (pe_callTy call_int1 (by rfl) T.b_int (by decide +kernel) (pa_cons (pv 10) pa_nil)) (pv 5)) pe_int (nomark _)))) (fun _ _ _ _ _ => (pv 10))) (by intro _; rfl))))))))) (pss_one (ps_ret pe_str)) pss_nil))) pss_nil))
    (pss_cons (ps_if (pt_cmpR op_gt (pv 3) pe_int (nomark _)) (pss_cons (ps_if (PW.pt (pw_or (pt_cmpR op_lt (pv 6) pe_int (nomark _)) (pw_or1 (pt_truth (pe_lc (own := [("one", 10)]) (g := gName 10) rfl sc__law_broken.nd (pi_seq (pe_op op_cat (pe_lst (pa_cons (pv 1) (pa_cons (pv 2) pa_nil))) (pe_callTy call_list_of (by rfl) T.b_list (by decide +kernel) (pa_cons (pv 4) pa_nil)))) (blkOk_by (own := [("one", 10)]) (N := N__law_broken) (sc := defScope s__law_broken) (by decide +kernel)) (fun _ _ _ _ _ => pg_name (i := 10) sc__law_broken.nd rfl (.inl rfl)) (fun _ _ _ _ _ => (pts_one (pt_cmpR op_ne (pe_op op_modP (pe_callTy call_int1 (by rfl) T.b_int (by decide +kernel) (pa_cons (pv 10) pa_nil)) (pv 6)) pe_int (nomark _)))) (fun _ _ _ _ _ => (pv 10))) (by intro _; rfl))))) (pss_one (ps_ret pe_str)) pss_nil)
    (pss_cons (ps_setLc (i := 9) (own := [("one", 10)]) (g := gName 10) rfl sc__law_broken.nd rfl rfl (sw_true rfl rfl rfl (by decide +kernel)) (pi_seq (pv 4)) (blkOk_by (own := [("one", 10)]) (N := N__law_broken) (sc := defScope s__law_broken) (by decide +kernel)) (fun _ _ _ _ _ => pg_name (i := 10) sc__law_broken.nd rfl (.inl rfl)) (fun _ _ _ _ _ => (pts_one (pt_cmpR op_eq (pe_op op_modP (pe_callTy call_int1 (by rfl) T.b_int (by decide +kernel) (pa_cons (pe_op op_fdivP (pe_op op_add (pv 10) (pv 1)) (pv 6)) pa_nil)) pe_int) pe_int (nomark _)))) (fun _ _ _ _ _ => (pv 10)))
    (pss_one (ps_if (PW.pt (pw_or (pt_cmpR op_eq (pe_cmpR op_isN (pv 7) pe_non (nomark _)) (pe_u C_law_weighed hr (pa_cons (pv 1) (pa_cons (pv 2) (pa_cons (pv 6) pa_nil)))) (nomark _)) (pw_or1 (PW.pt (pw_and (pt_cmpR op_notN (pv 7) pe_non (nomark _)) (pw_and1 (pt_cmpR op_ne (pe_cmpR op_eq (pv 7) pe_int (nomark _)) (pe_cmpR (op_neD (by exact hr.units)) (pv 9) (pe_lst pa_nil) (nomark _)) (nomark _)))))))) (pss_one (ps_ret pe_str)) pss_nil)))) pss_nil)
    (pss_one (ps_ret pe_non))))))), ?_⟩
    refine ⟨_, rfl, t, _, rfl, SqT.of ht, rfl, ?_⟩
    refine ⟨_, _, rfl, _, _, rfl, _, _, rfl, _, _, rfl, _, _, rfl, _, _, rfl, _, _, rfl, rfl, ?_⟩
    have hri := li.r
    unfold rimsOk at hri
    rw [Bool.and_eq_true, Bool.and_eq_true] at hri
    have hne : kd.rs ≠ [] := by
      intro e
      rw [e] at hri
      exact absurd hri.1.1 (by decide)
    have hpos : 0 < kd.rs.length := List.length_pos_iff.mpr hne
    let σ0 : L2.St := [some (.ref t), some (.int nn), some (.int mm), some (.int kd.h), some (.ref te), some (optV kd.m), some (optV kd.s), some (optV kd.b), none, none, none]
    refine ⟨fun σ H' => σ = σ0 ∧ Same H H', ?_, ?_⟩
    · refine ⟨_, rfl, _, tru_seq (sqA_t hte), ?_⟩
      rw [show (kd.rs.map V.int).isEmpty = false by cases e : kd.rs with | nil => exact absurd e hne | cons => rfl]
      refine iteF ?_
      refine ⟨_, rfl, te, _, rfl, .inr (SqT.of hte), fun L hL => ?_⟩
      refine ⟨_, rfl, te, kd.rs, rfl, sqA_t (Same.new hL _ _ hte), fun ns' M hp1 hp2 hM => ?_⟩
      obtain rfl : kd.rs = ns' := List.Perm.eq_of_pairwise (le := (· ≤ ·)) (fun a b _ _ h1 h2 => Int.le_antisymm h1 h2) li.p hp2 hp1.symm
      refine rd_neI (SqL.of (Same.new hM _ _ upd_same)) (SqL.of upd_same) ⟨_, rfl, ?_⟩
      rw [decide_eq_true rfl]
      refine iteF ?_
      have e2 : Same H (upd (upd H L (.lst (kd.rs.map V.int))) M (.lst (kd.rs.map V.int))) := (Same.new hL).trans (Same.new hM)
      refine ⟨_, rfl, _, rfl, ?_⟩
      by_cases m0 : mm = 0
      · subst m0
        refine iteF ?_
        exact ⟨rfl, e2⟩
      · rw [show (mm != 0) = true by simpa using m0]
        refine iteT ?_
        have h3 := hri.2
        rw [decide_eq_false m0, Bool.false_or, Bool.and_eq_true, decide_eq_true_iff, decide_eq_true_iff] at h3
        have a0 := at_getD (rs := kd.rs) hpos
        refine ⟨_, rfl, rix_A (sqA_t (e2 _ _ hte)) a0 ⟨_, _, rfl, rfl, _, rfl, ?_⟩⟩
        rw [decide_eq_false (by omega)]
        refine iteF ?_
        refine ⟨_, rfl, 1, rfl, rix_A (sqA_t (e2 _ _ hte)) (at_last hne) ⟨_, rfl, _, _, rfl, rfl, _, rfl, ?_⟩⟩
        rw [decide_eq_false (by omega)]
        exact ⟨rfl, e2⟩
    · rintro σ' H2 ⟨rfl, e2⟩
      have hte2 := e2 _ _ hte
      have ll := li.l
      have ln := li.n
      have lh := li.h
      refine ⟨_, rfl, _, rfl, te, kd.rs, rfl, sqA_t hte2, _, rfl, _, rfl, _, _, rfl, rfl, .inl ⟨by decide, by decide⟩, _, _, rfl, rfl, _, rfl, te, _, rfl, .inr (SqT.of hte2), _, _, rfl, rfl, _, _, rfl, rfl, .inl ⟨by omega, by omega⟩, _, _, rfl, rfl, ?_⟩
      refine ⟨mm, _, rfl, li.m, ?_⟩
      rw [List.length_map, sum_red li.s]
      refine ⟨rfl, _, rfl, ?_⟩
      refine iteF ?_
      refine ⟨fun σ H' => (∃ s8, σ = [some (.ref t), some (.int nn), some (.int mm), some (.int kd.h), some (.ref te), some (optV kd.m), some (optV kd.s), some (optV kd.b), s8, none, none]) ∧ Same H H' ∧ (kd.h = 1 → lawOk nn mm kd = true), ?_, ?_⟩
      · refine ⟨_, rfl, rfl, _, rfl, ?_⟩
        rw [decI]
        by_cases h1 : kd.h = 1
        · rw [decide_eq_true h1]
          refine iteT ?_
          obtain ⟨d, hd⟩ : ∃ d : Nat, kd.m = some (d : Int) := by
            rcases li.c with c | ⟨_, c⟩ | ⟨c, _⟩
            · omega
            · exact c
            · omega
          have lok : lawOk nn mm kd = decide (d ∣ gN (mm :: kd.rs.map (· + nn))) := by
            unfold lawOk
            rw [if_neg (by omega), if_pos h1, hd]
            rfl
          refine ⟨_, rfl, (by show 1 ≤ sizeLine; decide), fun L1 hL1 => ?_⟩
          refine tlc_pure (K := K) (a := te) (onI fun r => .int (r + nn)) (fun R r => ⟨_, rfl, r⟩) (sqA_t (Same.new hL1 _ _ hte2)) (len1000 (by omega)) (fun _ => rfl) (fun x hx H' e Q' q' => ?_) fun D hD => ?_
          · obtain ⟨r, _, rfl⟩ := List.mem_map.mp hx
            exact ⟨_, rfl, _, rfl, _, _, rfl, rfl, q'⟩
          rw [onI_map]
          refine ⟨L1, D, _, _, rfl, rfl, Same.new hD _ _ upd_same, upd_same, ?_, fun S hS => ?_⟩
          · rw [List.length_map]
            exact Nat.le_trans (show _ ≤ 1000 by simp; omega) (by decide)
          have e3 := e2.trans ((Same.new (o := HO.lst [V.int mm]) hL1).trans ((Same.new (o := HO.lst (kd.rs.map fun r => V.int (r + nn))) hD).trans (Same.new (o := HO.lst ([V.int mm] ++ kd.rs.map fun r => V.int (r + nn))) hS)))
          have hS3 : upd (upd (upd H2 L1 (.lst [V.int mm])) D (.lst (kd.rs.map fun r => V.int (r + nn)))) S (.lst ([V.int mm] ++ kd.rs.map fun r => V.int (r + nn))) S = some (.lst ((mm :: kd.rs.map (· + nn)).map V.int)) := by
            rw [upd_same]
            simp
          revert e3 hS3
          generalize upd (upd (upd H2 L1 (.lst [V.int mm])) D (.lst (kd.rs.map fun r => V.int (r + nn)))) S (.lst ([V.int mm] ++ kd.rs.map fun r => V.int (r + nn))) = H3
          intro e3 hS3
          have tail : ∀ (c : Bool) (H' : Hp), Same H H' → c = !lawOk nn mm kd → (if c = true then Q (.str "measure") H' else (∃ s8, ([some (.ref t), some (.int nn), some (.int mm), some (.int kd.h), some (.ref te), some (optV kd.m), some (optV kd.s), some (optV kd.b), some (.ref S), none, none] : L2.St) = [some (.ref t), some (.int nn), some (.int mm), some (.int kd.h), some (.ref te), some (optV kd.m), some (optV kd.s), some (optV kd.b), s8, none, none]) ∧ Same H H' ∧ (kd.h = 1 → lawOk nn mm kd = true)) := fun c H' e' ec => by
            cases hk : lawOk nn mm kd with
            | true =>
              rw [ec, hk]
              exact iteF ⟨⟨_, rfl⟩, e', fun _ => rfl⟩
            | false =>
              rw [ec, hk]
              exact iteT (q _ H' e' (by rw [hk]; exact decide_eq_false fun z => by cases z))
          have hm5 : optV kd.m = V.int (d : Int) := by rw [hd]; rfl
          refine ⟨_, rfl, _, _, hm5, rfl, _, rfl, ?_⟩
          rw [decide_eq_false (show ¬ (d : Int) < 0 by omega)]
          refine iteF ?_
          refine ⟨_, rfl, by rw [hm5]; rfl, _, rfl, ?_⟩
          rw [show decide (optV kd.m = V.int 0) = decide ((d : Int) = 0) by rw [hm5, decI]]
          by_cases d0 : d = 0
          · rw [decide_eq_true (show (d : Int) = 0 by omega)]
            refine iteT ?_
            refine ⟨_, rfl, S, _, rfl, sqA_l hS3, fun H4 e4 => ⟨rfl, _, rfl, ?_⟩⟩
            have lok2 : lawOk nn mm kd = decide (gN (mm :: kd.rs.map (· + nn)) = 0) := by
              rw [lok, decide_eq_decide, d0]
              exact Nat.zero_dvd
            by_cases g0 : gN (mm :: kd.rs.map (· + nn)) = 0
            · rw [g0]
              refine iteF ?_
              refine ⟨_, rfl, _, _, hm5, rfl, _, rfl, ?_⟩
              rw [decide_eq_false (show ¬ (0 : Int) < (d : Int) by omega)]
              refine iteF ?_
              exact tail false H4 (e3.trans e4) (by rw [lok2, decide_eq_true g0]; rfl)
            · rw [decI, decide_eq_false (show ¬ ((gN (mm :: kd.rs.map (· + nn)) : Nat) : Int) = 0 by omega)]
              refine iteT ?_
              exact tail true H4 (e3.trans e4) (by rw [lok2, decide_eq_false g0]; rfl)
          · rw [decide_eq_false (show ¬ (d : Int) = 0 by omega)]
            refine iteF ?_
            refine ⟨_, rfl, _, _, hm5, rfl, _, rfl, ?_⟩
            rw [decide_eq_true (show (0 : Int) < (d : Int) by omega)]
            refine iteT ?_
            refine tlc_filt (K := K) (xs := (mm :: kd.rs.map (· + nn)).map V.int) (onB fun z => !decide (z % (d : Int) = 0)) (fun R r => ⟨_, rfl, r _ _ (Same.refl _) (sqA_l hS3)⟩) ?_ (fun _ => rfl) (fun x hx H1 e1 Q' q' => ?_) (fun x hx H1 Q' q' => ⟨_, rfl, q'⟩) fun D2 H4 e4 hD2 h4 => ?_
            · rw [List.length_map, List.length_cons, List.length_map]
              exact small1000 (by omega)
            · obtain ⟨z, _, rfl⟩ := List.mem_map.mp hx
              refine ⟨_, rfl, .inl ⟨_, rfl, _, rfl, _, _, rfl, hm5, (show (0 : Int) < (d : Int) by omega), rfl, _, rfl, ?_⟩⟩
              rw [decI]
              exact q' _ (Same.refl _)
            · rw [filt_onB] at h4
              refine ⟨_, .inl ⟨_, SqL.of h4, rfl⟩, ?_⟩
              refine tail _ H4 (e3.trans e4) ?_
              rw [show ((((mm :: kd.rs.map (· + nn)).filter fun z => !decide (z % (d : Int) = 0))).map V.int).isEmpty = (((mm :: kd.rs.map (· + nn)).filter fun z => !decide (z % (d : Int) = 0))).isEmpty by simp, filt_emp, meas_any (by omega), lok]
        · rw [decide_eq_false h1]
          exact iteF ⟨⟨_, rfl⟩, e2, fun z => absurd z h1⟩
      · rintro σ' H3 ⟨⟨s8, rfl⟩, e3, hk1⟩
        have hte3 := e3 _ _ hte
        refine ⟨_, rfl, _, _, rfl, rfl, _, rfl, ?_⟩
        by_cases h2 : 1 < kd.h
        · rw [decide_eq_true h2]
          refine iteT ?_
          obtain ⟨d, hd, hdb, hbb⟩ : ∃ d : Nat, kd.s = some (d : Int) ∧ (0 < d ∧ d < 1000) ∧ (kd.b = none ∨ kd.b = some 1 ∨ kd.b = some 0 ∨ kd.b = some (-1)) := by
            rcases li.c with c | ⟨c, _⟩ | ⟨_, c⟩
            · omega
            · omega
            · exact c
          have lok : lawOk nn mm kd = (decide (d ∣ gN (nn :: mm :: kd.rs)) && balOk nn mm kd.rs d kd.b) := by
            unfold lawOk
            rw [if_neg (by omega), if_neg (by omega), hd]
            rfl
          have hs6 : optV kd.s = V.int (d : Int) := by rw [hd]; rfl
          refine ⟨_, rfl, _, _, hs6, rfl, _, rfl, ?_⟩
          rw [decide_eq_false (show ¬ (d : Int) < 1 by omega)]
          refine iteF ?_
          refine tlc_filt (K := K) (xs := (nn :: mm :: kd.rs).map V.int) (onB fun z => !decide (z % (d : Int) = 0)) (fun R r => ?_) ?_ (fun _ => rfl) (fun x hx H1 e1 Q' q' => ?_) (fun x hx H1 Q' q' => ⟨_, rfl, q'⟩) fun D2 H4 e4 hD2 h4 => ?_
          · refine ⟨_, rfl, _, rfl, (by show 2 ≤ sizeLine; decide), fun L1 hL1 => ?_⟩
            refine ⟨_, rfl, te, _, rfl, .inr (SqT.of (Same.new hL1 _ _ hte3)), fun L2 hL2 => ?_⟩
            refine ⟨L1, L2, _, _, rfl, rfl, Same.new hL2 _ _ upd_same, upd_same, ?_, fun L3 hL3 => ?_⟩
            · rw [List.length_map]
              exact Nat.le_trans (show _ ≤ 1000 by simp; omega) (by decide)
            · exact r L3 _ ((Same.new hL1).trans ((Same.new hL2).trans (Same.new hL3))) (sqA_l upd_same)
          · rw [List.length_map, List.length_cons, List.length_cons]
            exact small1000 (by omega)
          · obtain ⟨z, _, rfl⟩ := List.mem_map.mp hx
            refine ⟨_, rfl, .inl ⟨_, rfl, _, rfl, _, _, rfl, hs6, (show (0 : Int) < (d : Int) by omega), rfl, _, rfl, ?_⟩⟩
            rw [decI]
            exact q' _ (Same.refl _)
          · rw [filt_onB] at h4
            refine ⟨_, .inl ⟨_, SqL.of h4, rfl⟩, ?_⟩
            rw [show ((((nn :: mm :: kd.rs).filter fun z => !decide (z % (d : Int) = 0))).map V.int).isEmpty = (((nn :: mm :: kd.rs).filter fun z => !decide (z % (d : Int) = 0))).isEmpty by simp, filt_emp, meas_any (by omega)]
            have e34 := e3.trans e4
            by_cases hdv : d ∣ gN (nn :: mm :: kd.rs)
            · rw [decide_eq_true hdv]
              refine iteF ?_
              rw [decide_eq_true hdv, Bool.true_and] at lok
              dsimp only [tNext, tSeq, gName, tAsg, tRet]
              refine tlc_filt (K := K) (xs := kd.rs.map V.int) (onB fun r => decide ((r + nn) / (d : Int) % 2 = 1)) (fun R r => ⟨_, rfl, r te _ (Same.refl _) (sqA_t (e34 _ _ hte))⟩) (len1000 (by omega)) (fun _ => rfl) (fun x hx H1 e1 Q' q' => ?_) (fun x hx H1 Q' q' => ⟨_, rfl, q'⟩) fun D3 H5 e5 hD3 h5 => ?_
              · obtain ⟨z, _, rfl⟩ := List.mem_map.mp hx
                refine ⟨_, rfl, _, rfl, _, _, rfl, rfl, _, rfl, _, _, rfl, hs6, ⟨(show (0 : Int) < (d : Int) by omega), by omega⟩, .inl ⟨_, rfl, _, _, rfl, rfl, (by show (0 : Int) < 2; decide), rfl, _, rfl, ?_⟩⟩
                rw [decI]
                exact q' _ (Same.refl _)
              · rw [filt_onB] at h5
                have e35 := e34.trans e5
                refine ⟨_, rfl, rfl, _, rfl, _, rfl, _, rfl, nn, mm, (d : Int), by rw [hs6]; rfl, ⟨by omega, by omega⟩, rfl, _, rfl, ?_⟩
                rw [optN, dec_bl]
                have lok' := lok
                unfold balOk at lok'
                by_cases hw : hasBal nn mm (d : Int) = true
                · rw [if_pos hw] at lok'
                  rw [hw]
                  cases hb : kd.b with
                  | none =>
                    refine iteT ?_
                    rw [hb] at lok'
                    exact q _ H5 e35 (by rw [lok']; exact decide_eq_false fun z => by cases z)
                  | some b =>
                    refine iteF ?_
                    rw [hb] at lok'
                    refine ⟨_, rfl, rfl, _, rfl, ?_⟩
                    refine iteT ?_
                    refine ⟨_, rfl, rfl, _, rfl, (by show 0 ≤ sizeLine; decide), fun Z hZ => ?_⟩
                    refine rd_neI (m := []) (SqL.of (Same.new hZ _ _ h5)) (SqL.of upd_same) ⟨rfl, _, rfl, ?_⟩
                    have ho : (!decide ((kd.rs.filter fun r => decide ((r + nn) / (d : Int) % 2 = 1)) = [])) = oddRim nn kd.rs d := by
                      unfold oddRim
                      rw [← filt_emp]
                      cases (kd.rs.filter fun r => decide ((r + nn) / (d : Int) % 2 = 1)) <;> simp
                    rw [ho]
                    show if (!decide (V.bl (decide (V.int b = V.int 0)) = V.bl (oddRim nn kd.rs d))) = true then _ else _
                    rw [decI]
                    have lk : lawOk nn mm kd = decide (decide (b = 0) = oddRim nn kd.rs d) := lok'
                    rw [show decide (V.bl (decide (b = 0)) = V.bl (oddRim nn kd.rs d)) = lawOk nn mm kd by rw [lk]; simp]
                    cases hk : lawOk nn mm kd with
                    | true => exact iteF (q _ _ (e35.trans (Same.new hZ)) (by rw [hk]; rfl))
                    | false => exact iteT (q _ _ (e35.trans (Same.new hZ)) (by rw [hk]; exact decide_eq_false fun z => by cases z))
                · rw [if_neg hw] at lok'
                  rw [Bool.not_eq_true] at hw
                  rw [hw]
                  cases hb : kd.b with
                  | none =>
                    refine iteF ?_
                    rw [hb] at lok'
                    refine ⟨_, rfl, rfl, _, rfl, ?_⟩
                    refine iteF ?_
                    exact q _ H5 e35 (by rw [lok']; rfl)
                  | some b =>
                    refine iteT ?_
                    rw [hb] at lok'
                    exact q _ H5 e35 (by rw [lok']; exact decide_eq_false fun z => by cases z)
            · rw [decide_eq_false hdv]
              refine iteT ?_
              exact q _ H4 e34 (by rw [lok, decide_eq_false hdv]; exact decide_eq_false fun z => by cases z)
        · rw [decide_eq_false h2]
          refine iteF ?_
          refine q _ H3 e3 ?_
          by_cases h1 : kd.h = 1
          · rw [hk1 h1]
            rfl
          · unfold lawOk
            rw [if_pos (by have := li.h; omega)]
            rfl
end
end C53
set_option Elab.async false
set_option linter.all false
set_option maxRecDepth 100000
set_option maxHeartbeats 1000000
namespace C53
open PySem PySem.Spec PyProof.Rows L2 Ex
/-! ### lists of kinds -/
def AllR (R : Hp → Addr → Kd → Prop) (H : Hp) : List Addr → List Kd → Prop
  | [], [] => True
  | x :: xs, kd :: ks => R H x kd ∧ AllR R H xs ks
  | _, _ => False
section
variable {K : PySem.W.Frag} {H H' : Hp} {R : Hp → Addr → Kd → Prop}
theorem AllR.imp (f : ∀ x kd, R H x kd → R H' x kd) : ∀ {xs : List Addr} {ks : List Kd}, AllR R H xs ks → AllR R H' xs ks
  | [], [], _ => trivial
  | x :: xs, kd :: ks, h => ⟨f _ _ h.1, AllR.imp f h.2⟩
  | [], _ :: _, h => h.elim
  | _ :: _, [], h => h.elim
theorem AllR.app : ∀ {xs ys : List Addr} {ks ls : List Kd}, AllR R H xs ks → AllR R H ys ls → AllR R H (xs ++ ys) (ks ++ ls)
  | [], _, [], _, _, h => h
  | x :: xs, _, kd :: ks, _, h, g => ⟨h.1, AllR.app h.2 g⟩
  | [], _, _ :: _, _, h, _ => h.elim
  | _ :: _, _, [], _, h, _ => h.elim
theorem AllR.len : ∀ {xs : List Addr} {ks : List Kd}, AllR R H xs ks → xs.length = ks.length
  | [], [], _ => rfl
  | x :: xs, kd :: ks, h => congrArg Nat.succ (AllR.len h.2)
  | [], _ :: _, h => h.elim
  | _ :: _, [], h => h.elim
theorem AllR.take : ∀ {xs : List Addr} {ks : List Kd} (n : Nat), AllR R H xs ks → AllR R H (xs.take n) (ks.take n)
  | [], [], n, _ => by rw [List.take_nil, List.take_nil]; trivial
  | x :: xs, kd :: ks, 0, _ => trivial
  | x :: xs, kd :: ks, n + 1, h => ⟨h.1, AllR.take n h.2⟩
  | [], _ :: _, _, h => h.elim
  | _ :: _, [], _, h => h.elim
theorem AllR.get : ∀ {xs : List Addr} {ks : List Kd} {i : Nat} {x : Addr}, AllR R H xs ks → xs[i]? = some x → ∃ kd, ks[i]? = some kd ∧ R H x kd
  | x :: xs, kd :: ks, 0, y, h, e => ⟨kd, rfl, by
    obtain rfl : x = y := Option.some.inj e
    exact h.1⟩
  | x :: xs, kd :: ks, i + 1, y, h, e => AllR.get (i := i) h.2 e
  | [], [], i, y, _, e => by simp at e
  | [], _ :: _, _, _, h, _ => h.elim
  | _ :: _, [], _, _, h, _ => h.elim
/-- [Kind(..) for x in xs] -/
theorem tlc_objs (Rs : ∀ H H' y kd, Same H H' → R H y kd → R H' y kd) (Rk : ∀ H H' D ys y kd, H D = some (.lst ys) → Keeps D H H' → R H y kd → R H' y kd) {te tl : TE} {vs : List Nat} {σ : L2.St} {j : Nat} {xs : List V} {Q : VK} (kdf : V → Kd) (hl : ∀ R' : VK, (∀ a H1, Same H H1 → SqA K H1 a xs → R' (.ref a) H1) → tl σ H R') (hz : xs.length < sizeLine) (hw : ∀ x, wipe ((wipe σ vs).set j (some x)) vs = wipe σ vs)
    (hel : ∀ x ∈ xs, ∀ H1, Same H H1 → ∀ Q' : VK, (∀ y H2, Same H1 H2 → R H2 y (kdf x) → Q' (.ref y) H2) → te ((wipe σ vs).set j (some x)) H1 Q')
    (hd : ∀ D H2 ys, Same H H2 → H D = none → H2 D = some (.lst (ys.map V.ref)) → AllR R H2 ys (xs.map kdf) → Q (.ref D) H2) : tLc (iSeq K tl) (gName j) tYes te vs σ H Q := by
  refine hl _ fun a H1 e1 src => ⟨a, rfl, ?_⟩
  have nn1 : ∀ D, H1 D = none → H D = none := fun D h => by
    rcases q : H D with _ | o
    · rfl
    · rw [e1 _ _ q] at h
      cases h
  let Pv : Addr → Nat → Hp → Prop := fun D i H' => Keeps D H1 H' ∧ ∃ ys : List Addr, H' D = some (.lst (ys.map V.ref)) ∧ ys.length ≤ i ∧ AllR R H' ys ((xs.take i).map kdf)
  have p0 : ∀ D, H1 D = none → Pv D 0 (upd H1 D (.lst [])) := fun D hD => ⟨Keeps.upd, [], upd_same, Nat.le_refl _, trivial⟩
  have turn : ∀ D, H1 D = none → ∀ i x H', xs[i]? = some x → Pv D i H' → gName j x (wipe σ vs) H' fun σ2 H2 => wipe σ2 vs = wipe σ vs ∧ tYes σ2 H2 fun b H3 =>
      if b = true then te σ2 H3 fun y H4 => ∃ acc, H4 D = some (.lst acc) ∧ acc.length < sizeLine ∧ Pv D (i + 1) (upd H4 D (.lst (acc ++ [y]))) else Pv D (i + 1) H3 := by
    intro D hD i x H' hx ⟨k1, ys, h1, h2, h3⟩
    refine ⟨hw x, ?_⟩
    unfold tYes
    refine iteT ?_
    have hi : i < xs.length := by
      rcases Nat.lt_or_ge i xs.length with h | h
      · exact h
      · rw [List.getElem?_eq_none h] at hx
        cases hx
    refine hel x (List.mem_of_getElem? hx) _ (e1.trans (k1.same hD)) _ fun y H4 e4 hy => ⟨_, e4 _ _ h1, ?_, ?_⟩
    · rw [List.length_map]
      omega
    · refine ⟨(k1.trans (Same.keeps e4)).trans Keeps.upd, ys ++ [y], ?_, ?_, ?_⟩
      · rw [upd_same, List.map_append]
        rfl
      · rw [List.length_append]
        exact Nat.succ_le_succ h2
      · rw [List.take_add_one, hx, List.map_append]
        have g4 := e4 _ _ h1
        exact (h3.imp fun _ _ z => Rk _ _ _ _ _ _ g4 Keeps.upd (Rs _ _ _ _ e4 z)).app ⟨Rk _ _ _ _ _ _ g4 Keeps.upd hy, trivial⟩
  have stop : ∀ D, H1 D = none → ∀ H', Pv D xs.length H' → Q (.ref D) H' := fun D hD H' ⟨k1, ys, h1, h2, h3⟩ => by
    rw [List.take_length] at h3
    exact hd D H' ys (e1.trans (k1.same hD)) (nn1 D hD) h1 h3
  rcases src with src | src
  · refine .inl ⟨⟨xs, src⟩, fun D hD => lc_list (K := K) (a := a) (xs := xs) (Pv D) (p0 D hD) (fun i H' _ e => (Keeps.same e.1 hD).seq src) (turn D hD) (stop D hD)⟩
  · refine .inr ⟨⟨xs, src⟩, fun D hD => lc_tup (K := K) (a := a) (xs := xs) (Pv D) (p0 D hD) (fun i H' _ e => ?_) (turn D hD) (stop D hD)⟩
    rcases src with h' | h'
    · rcases h' with h' | ⟨o, h'⟩
      · exact .inl (.inl (Keeps.same e.1 hD _ _ h'))
      · exact .inl (.inr ⟨o, Keeps.same e.1 hD _ _ h'⟩)
    · exact .inr h'
end
theorem optV_inj {a b : Option Int} (h : optV a = optV b) : a = b := by
  cases a <;> cases b <;> simp_all [optV]
theorem map_int_inj {a b : List Int} (h : a.map V.int = b.map V.int) : a = b := (List.map_inj_right fun x y e => V.int.inj e).mp h
theorem IsTup.unique {H : Hp} {t : Addr} {nn mm : Int} {k1 k2 : Kd} (h1 : IsTup H t nn mm k1) (h2 : IsTup H t nn mm k2) : k1 = k2 := by
  obtain ⟨t1, a1, b1⟩ := h1.ex
  obtain ⟨t2, a2, b2⟩ := h2.ex
  rw [a1] at a2
  have e := HO.tup.inj (Option.some.inj a2)
  unfold kdL at e
  have e1 := (List.cons.inj (List.cons.inj (List.cons.inj e).2).2)
  have e2 := List.cons.inj e1.2
  have e3 := List.cons.inj e2.2
  have e4 := List.cons.inj e3.2
  have e5 := List.cons.inj e4.2
  obtain rfl := V.ref.inj e2.1
  rw [b1] at b2
  have r := map_int_inj (HO.tup.inj (Option.some.inj b2))
  obtain ⟨h, rs, m, s, b⟩ := k1
  obtain ⟨h', rs', m', s', b'⟩ := k2
  obtain rfl : h = h' := V.int.inj e1.1
  obtain rfl : rs = rs' := r
  obtain rfl : m = m' := optV_inj e3.1
  obtain rfl : s = s' := optV_inj e4.1
  obtain rfl : b = b' := optV_inj e5.1
  rfl
def TupR (nn mm : Int) : Hp → Addr → Kd → Prop := fun H t kd => IsTup H t nn mm kd
theorem tupR_s (nn mm : Int) : ∀ H H' y kd, Same H H' → TupR nn mm H y kd → TupR nn mm H' y kd := fun _ _ _ _ e h => IsTup.same e h
theorem tupR_k (nn mm : Int) : ∀ H H' D ys y kd, H D = some (.lst ys) → Keeps D H H' → TupR nn mm H y kd → TupR nn mm H' y kd := fun H H' D ys y kd hD e h => by
  obtain ⟨te, h1, h2⟩ := h.ex
  exact ⟨te, e _ _ (fun z => by subst z; rw [h1] at hD; cases hD) h1, e _ _ (fun z => by subst z; rw [h2] at hD; cases hD) h2⟩
open Classical in
noncomputable def okT (H : Hp) (nn mm : Int) : V → Bool
  | .ref t => decide (∃ kd, IsTup H t nn mm kd ∧ lawOk nn mm kd = true)
  | _ => false
open Classical in
theorem okT_of {H : Hp} {nn mm : Int} {t : Addr} {kd : Kd} (h : IsTup H t nn mm kd) : okT H nn mm (.ref t) = lawOk nn mm kd := by
  unfold okT
  cases e : lawOk nn mm kd with
  | true => exact decide_eq_true ⟨kd, h, e⟩
  | false =>
    refine decide_eq_false fun ⟨k2, h2, e2⟩ => ?_
    rw [h.unique h2, e2] at e
    cases e
theorem allT_filt {H : Hp} {nn mm : Int} : ∀ {ts : List Addr} {ks : List Kd}, AllR (TupR nn mm) H ts ks → ∃ ts' : List Addr, (ts.map V.ref).filter (okT H nn mm) = ts'.map V.ref ∧ AllR (TupR nn mm) H ts' (ks.filter (lawOk nn mm))
  | [], [], _ => ⟨[], rfl, trivial⟩
  | t :: ts, kd :: ks, h => by
    obtain ⟨ts', e, a⟩ := allT_filt (ts := ts) (ks := ks) h.2
    rw [List.map_cons, List.filter_cons, List.filter_cons, okT_of h.1, e]
    cases lawOk nn mm kd with
    | true => exact ⟨t :: ts', rfl, h.1, a⟩
    | false => exact ⟨ts', rfl, a⟩
  | [], _ :: _, h => h.elim
  | _ :: _, [], h => h.elim
abbrev s__law_kinds_for : Stmt := topS 66
abbrev N__law_kinds_for : List Str := ["nn", "mm", "pairs", "edge", "found", "top", "step", "kd", "one", "sign"]
theorem sc__law_kinds_for : FnScope N__law_kinds_for ["nn", "mm", "pairs", "edge"] (defScope s__law_kinds_for) := ⟨rfl, rfl, rfl, by decide +kernel, rfl, by decide +kernel, by decide +kernel⟩
def cand (nn : Int) (h : Int) (rs : List Int) (top : Nat) : List Kd :=
  if h = 0 then [⟨0, rs, none, none, none⟩] else if h = 1 then (if top = 0 then List.range 7 else List.range' 1 top).map (mk1 rs)
  else (List.range' 1 nn.toNat).flatMap fun (s : Nat) => [none, some 0, some (-1), some 1].map (mk2 h rs s)
def lawKinds (nn mm h : Int) (rs : List Int) : List Kd := (cand nn h rs (gN (mm :: rs.map (· + nn)))).filter (lawOk nn mm)
section
variable {P : Program} {w : World} {K : PySem.W.Frag} {mg : Str → Option Value} {base : Heap} {k : Nat} {f : Addr} {fd : FuncData}
def spKindsFor : Sp := fun vs H Q _ => ∃ (te : Addr) (nn mm h : Int) (rs : List Int), vs = [.int nn, .int mm, .int h, .ref te] ∧ H te = some (.tup (rs.map V.int)) ∧ rs.length ≤ 900 ∧ (1 ≤ nn ∧ nn < 1000) ∧ 0 ≤ mm ∧ (0 ≤ h ∧ h < 1000) ∧ rs.Pairwise (· ≤ ·) ∧ rimsOk mm rs = true ∧ sumOk nn mm h rs = true ∧ gN (mm :: rs.map (· + nn)) ≤ 1000000 ∧
  ∀ L H' ts, Same H H' → H L = none → H' L = some (.lst (ts.map V.ref)) → AllR (TupR nn mm) H' ts (lawKinds nn mm h rs) → Q (.ref L) H'
def kdJ (rs : List Int) : V → Kd
  | .int i => ⟨1, rs, some i, none, none⟩
  | _ => ⟨1, rs, none, none, none⟩
def kdS (h : Int) (rs : List Int) (s : Nat) : V → Kd
  | .int i => mk2 h rs s (some i)
  | _ => mk2 h rs s none
theorem cand_in {nn mm h : Int} {rs : List Int} {top : Nat} {kd : Kd} (hl : rs.length ≤ 900) (hn : 1 ≤ nn ∧ nn < 1000) (hm : 0 ≤ mm) (hh : 0 ≤ h ∧ h < 1000) (hp : rs.Pairwise (· ≤ ·)) (hr : rimsOk mm rs = true) (hs : sumOk nn mm h rs = true) (hk : kd ∈ cand nn h rs top) : LawIn nn mm kd := by
  unfold cand at hk
  by_cases h0 : h = 0
  · rw [if_pos h0] at hk
    obtain rfl := List.mem_singleton.mp hk
    subst h0
    exact ⟨hl, ⟨by omega, by omega⟩, hm, ⟨by show (0 : Int) ≤ 0; decide, by show (0 : Int) < 1000; decide⟩, hp, hr, hs, .inl rfl⟩
  · rw [if_neg h0] at hk
    by_cases h1 : h = 1
    · rw [if_pos h1] at hk
      obtain ⟨d, _, rfl⟩ := List.mem_map.mp hk
      subst h1
      exact ⟨hl, ⟨by omega, by omega⟩, hm, ⟨by show (0 : Int) ≤ 1; decide, by show (1 : Int) < 1000; decide⟩, hp, hr, hs, .inr (.inl ⟨rfl, d, rfl⟩)⟩
    · rw [if_neg h1] at hk
      obtain ⟨s, hs', hk⟩ := List.mem_flatMap.mp hk
      obtain ⟨b, hb, rfl⟩ := List.mem_map.mp hk
      rw [List.mem_range'_1] at hs'
      refine ⟨hl, ⟨by omega, by omega⟩, hm, hh, hp, hr, hs, .inr (.inr ⟨by show 1 < h; omega, s, rfl, ⟨by omega, by omega⟩, ?_⟩)⟩
      rcases List.mem_cons.mp hb with e | hb
      · exact .inl e
      rcases List.mem_cons.mp hb with e | hb
      · exact .inr (.inr (.inl e))
      rcases List.mem_cons.mp hb with e | hb
      · exact .inr (.inr (.inr e))
      · exact .inr (.inl (List.mem_singleton.mp hb))
theorem ok_law_kinds_for (T : Tx mg) (C_law_gcd : Cal P w K mg base k "_law_gcd" ["some"] (spGcd K)) (C_law_broken : Cal P w K mg base k "_law_broken" ["kd"] spLBroken) (F : Fun K "_law_kinds_for" "_law_kinds_for" s__law_kinds_for f fd) :
    FnOk P w K mg base CX0 (k + 1) f fd ["nn", "mm", "pairs", "edge"] spKindsFor := by
  refine F.ok sc__law_kinds_for (fun vs H Q E h => ?_) (fun cdv A outer s H vs Q E hr h => ?_)
  · obtain ⟨_, _, _, _, _, rfl, _⟩ := h
    rfl
  · obtain ⟨te, nn, mm, h, rs, rfl, hte, hl, hn, hm, hh, hp, hri, hs, htop, q⟩ := h
    refine ⟨_, PSs.nox (pss_cons (ps_par (i := 4) (j := 5) rfl sc__law_kinds_for.nd rfl rfl (by decide) rfl rfl (pa_cons (pe_lst pa_nil) (pa_cons (pe_u C_law_gcd hr (pa_cons (pe_op op_cat (pe_lst (pa_cons (pv 1) pa_nil)) (pe_lc (own := [("one", 8)]) (g := gName 8) rfl sc__law_kinds_for.nd (pi_seq (pv 3)) (blkOk_by (own := [("one", 8)]) (N := N__law_kinds_for) (sc := defScope s__law_kinds_for) (by decide +kernel)) (fun _ _ _ _ _ => pg_name (i := 8) sc__law_kinds_for.nd rfl (.inl rfl)) (fun _ _ _ _ _ => pts_nil) (fun _ _ _ _ _ => (pe_op op_add (pv 8) (pv 0))))) pa_nil)) pa_nil)) (by rfl))
    (pss_cons (ps_cut (ps_if (pt_cmpR op_eq (pv 2) pe_int (nomark _)) (pss_one (ps_set (i := 4) sc__law_kinds_for.nd rfl (.inl rfl) (pe_lst (pa_cons (pe_tup (pa_cons (pv 0) (pa_cons (pv 1) (pa_cons pe_int (pa_cons (pv 3) (pa_cons pe_non (pa_cons pe_non (pa_cons pe_non pa_nil)))))))) pa_nil)))) pss_nil))
    (pss_cons (ps_cut (ps_if (pt_cmpR op_eq (pv 2) pe_int (nomark _)) (pss_one (ps_setLc (i := 4) (own := [("one", 8)]) (g := gName 8) rfl sc__law_kinds_for.nd rfl rfl (sw_true rfl rfl rfl (by decide +kernel)) (pi_seq (pe_ifExp (pt_truth (pv 5) (by intro _; rfl)) (pe_listRg rfl (by rfl) T.b_list (prg_2 (by rfl) T.b_range pe_int (pe_op op_add (pv 5) pe_int))) (pe_lst (pa_cons pe_int (pa_cons pe_int (pa_cons pe_int (pa_cons pe_int (pa_cons pe_int (pa_cons pe_int (pa_cons pe_int pa_nil)))))))))) (blkOk_by (own := [("one", 8)]) (N := N__law_kinds_for) (sc := defScope s__law_kinds_for) (by decide +kernel)) (fun _ _ _ _ _ => pg_name (i := 8) sc__law_kinds_for.nd rfl (.inl rfl)) (fun _ _ _ _ _ => pts_nil) (fun _ _ _ _ _ => (pe_tup (pa_cons (pv 0) (pa_cons (pv 1) (pa_cons pe_int (pa_cons (pv 3) (pa_cons (pv 8) (pa_cons pe_non (pa_cons pe_non pa_nil))))))))))) pss_nil))
    (pss_cons (ps_cut (ps_if (pt_cmpR op_gt (pv 2) pe_int (nomark _)) (pss_one (ps_for PassesOwn.never rfl (pi_range2 rfl T.b_range (pa_cons pe_int (pa_cons (pe_op op_add (pv 0) pe_int) pa_nil))) (pg_name (i := 6) sc__law_kinds_for.nd rfl (.inr rfl))
      (pss_one (ps_expr (pe_bm PySem.F.plainAttrs_list PySem.F.slot_list_extend PySem.F.type_list_extend mt_extend (pv 4) (pa_cons (pe_lc (own := [("sign", 9)]) (g := gName 9) rfl sc__law_kinds_for.nd (pi_seq (pe_lst (pa_cons pe_non (pa_cons pe_int (pa_cons (pe_un un_neg pe_int) (pa_cons pe_int pa_nil)))))) (blkOk_by (own := [("sign", 9)]) (N := N__law_kinds_for) (sc := defScope s__law_kinds_for) (by decide +kernel)) (fun _ _ _ _ _ => pg_name (i := 9) sc__law_kinds_for.nd rfl (.inl rfl)) (fun _ _ _ _ _ => pts_nil) (fun _ _ _ _ _ => (pe_tup (pa_cons (pv 0) (pa_cons (pv 1) (pa_cons (pv 2) (pa_cons (pv 3) (pa_cons pe_non (pa_cons (pv 6) (pa_cons (pv 9) pa_nil)))))))))) pa_nil)))))) pss_nil))
    (pss_one (ps_ret (pe_lc (own := [("kd", 7)]) (g := gName 7) rfl sc__law_kinds_for.nd (pi_seq (pv 4)) (blkOk_by (own := [("kd", 7)]) (N := N__law_kinds_for) (sc := defScope s__law_kinds_for) (by decide +kernel)) (fun _ _ _ _ _ => pg_name (i := 7) sc__law_kinds_for.nd rfl (.inl rfl)) (fun _ _ _ _ _ => (pts_one (pt_cmpR op_isN (pe_u C_law_broken hr (pa_cons (pv 7) pa_nil)) pe_non (nomark _)))) (fun _ _ _ _ _ => (pv 7))))))))), ?_⟩
    refine ⟨(by show 0 ≤ sizeLine; decide), fun L0 hL0 => ?_⟩
    refine ⟨_, rfl, (by show 1 ≤ sizeLine; decide), fun L1 hL1 => ?_⟩
    refine tlc_pure (K := K) (a := te) (onI fun r => .int (r + nn)) (fun R r => ⟨_, rfl, r⟩) (sqA_t (Same.new hL1 _ _ (Same.new hL0 _ _ hte))) (len1000 (by omega)) (fun _ => rfl) (fun x hx H' e Q' q' => ?_) fun D hD => ?_
    · obtain ⟨r, _, rfl⟩ := List.mem_map.mp hx
      exact ⟨_, rfl, _, rfl, _, _, rfl, rfl, q'⟩
    rw [onI_map]
    refine ⟨L1, D, _, _, rfl, rfl, Same.new hD _ _ upd_same, upd_same, ?_, fun S hS => ?_⟩
    · rw [List.length_map]
      exact Nat.le_trans (show _ ≤ 1000 by simp; omega) (by decide)
    refine ⟨S, mm :: rs.map (· + nn), rfl, sqA_l (by rw [upd_same]; simp), fun H1 e1 => ⟨_, _, rfl, ?_⟩⟩
    have e01 := (Same.new (o := HO.lst []) hL0).trans ((Same.new (o := HO.lst [V.int mm]) hL1).trans ((Same.new (o := HO.lst (rs.map fun r => V.int (r + nn))) hD).trans ((Same.new hS).trans e1)))
    have hL01 := e1 _ _ (Same.new hS _ _ (Same.new hD _ _ (Same.new hL1 _ _ upd_same)))
    clear hS hD hL1
    let top := gN (mm :: rs.map (· + nn))
    refine ⟨fun σ H' => ∃ L ts s6 s7, σ = [some (.int nn), some (.int mm), some (.int h), some (.ref te), some (.ref L), some (.int (top : Nat)), s6, s7, none, none] ∧ Same H H' ∧ H L = none ∧ H' L = some (.lst (ts.map V.ref)) ∧ AllR (TupR nn mm) H' ts (if h = 0 then cand nn h rs top else []), ?_, ?_⟩
    · refine ⟨_, rfl, rfl, _, rfl, ?_⟩
      rw [decI]
      by_cases h0 : h = 0
      · rw [decide_eq_true h0]
        refine iteT ?_
        refine ⟨_, rfl, _, rfl, _, rfl, (by show 7 ≤ sizeLine; decide), fun t ht => ⟨(by show 1 ≤ sizeLine; decide), fun L hL => ?_⟩⟩
        have e2 := (Same.new (o := HO.tup [.int nn, .int mm, .int 0, .ref te, .non, .non, .non]) ht).trans (Same.new (o := HO.lst [V.ref t]) hL)
        refine ⟨L, [t], none, none, rfl, e01.trans e2, Same.nn e01 (Same.nn (Same.new ht) hL), upd_same, ?_⟩
        rw [if_pos h0]
        unfold cand
        rw [if_pos h0]
        exact ⟨⟨te, Same.new hL _ _ upd_same, (e01.trans e2) _ _ hte⟩, trivial⟩
      · rw [decide_eq_false h0]
        refine iteF ⟨L0, [], none, none, rfl, e01, hL0, hL01, ?_⟩
        rw [if_neg h0]
        trivial
    rintro σ1 H2 ⟨L, ts, s6, s7, rfl, e2, hL, hL2, ak2⟩
    refine ⟨fun σ H' => ∃ L ts s6 s7, σ = [some (.int nn), some (.int mm), some (.int h), some (.ref te), some (.ref L), some (.int (top : Nat)), s6, s7, none, none] ∧ Same H H' ∧ H L = none ∧ H' L = some (.lst (ts.map V.ref)) ∧ AllR (TupR nn mm) H' ts (if h ≤ 1 then cand nn h rs top else []), ?_, ?_⟩
    · refine ⟨_, rfl, rfl, _, rfl, ?_⟩
      rw [decI]
      by_cases h1 : h = 1
      · rw [decide_eq_true h1]
        refine iteT ?_
        dsimp only [tNext, tSeq, gName, tAsg, tRet]
        refine tlc_objs (K := K) (R := TupR nn mm) (tupR_s nn mm) (tupR_k nn mm) (xs := (if top = 0 then List.range 7 else List.range' 1 top).map vN) (kdJ rs) (fun R' r => ?_) ?_ (fun _ => rfl) (fun x hx H3 e3 Q' q' => ?_) fun D H3 ys e3 hD h3 ak => ?_
        · refine ⟨_, rfl, _, rfl, ?_⟩
          by_cases t0 : top = 0
          · rw [t0]
            refine iteF ?_
            exact ⟨(by show 7 ≤ sizeLine; decide), fun M hM => r M _ (Same.new hM) (sqA_l (by rw [upd_same, if_pos t0]; rfl))⟩
          · rw [show (((top : Nat) : Int) != 0) = true by simpa using t0]
            refine iteT ?_
            have tt : top ≤ 1000000 := htop
            refine ⟨_, rfl, _, _, rfl, rfl, 1, (top : Int) + 1, rfl, rfl, ⟨by decide, by decide, by omega, by omega, by omega⟩, fun M hM => r M _ (Same.new hM) (sqA_l ?_)⟩
            rw [upd_same, if_neg t0]
            unfold rgV
            rw [show ((top : Int) + 1 - 1).toNat = top by omega, List.range'_eq_map_range, List.map_map]
            rfl
        · have tt : top ≤ 1000000 := htop
          rw [List.length_map]
          split
          · exact Nat.lt_of_lt_of_le (show (List.range 7).length < 1000 by decide) (by decide)
          · rw [List.length_range']
            exact Nat.lt_of_le_of_lt tt (by decide)
        · obtain ⟨d, _, rfl⟩ := List.mem_map.mp hx
          refine ⟨_, rfl, _, rfl, _, rfl, _, rfl, (by show 7 ≤ sizeLine; decide), fun t ht => q' t _ (Same.new ht) ⟨te, ?_, ?_⟩⟩
          · rw [upd_same]
            rfl
          · exact Same.new ht _ _ (e3 _ _ (e2 _ _ hte))
        · refine ⟨D, ys, _, _, rfl, e2.trans e3, Same.nn e2 hD, h3, ?_⟩
          rw [if_pos (by omega)]
          unfold cand
          rw [if_neg (by omega), if_pos h1]
          rw [List.map_map] at ak
          exact ak
      · rw [decide_eq_false h1]
        refine iteF ⟨L, ts, s6, s7, rfl, e2, hL, hL2, ?_⟩
        by_cases h0 : h = 0
        · rw [if_pos (by omega)]
          rw [if_pos h0] at ak2
          exact ak2
        · rw [if_neg (by omega)]
          rw [if_neg h0] at ak2
          exact ak2
    clear hL2 ak2 e2
    rintro σ1 H2 ⟨L, ts, s6, s7, rfl, e2, hL, hL2, ak2⟩
    refine ⟨fun σ H' => ∃ ts s6 s7, σ = [some (.int nn), some (.int mm), some (.int h), some (.ref te), some (.ref L), some (.int (top : Nat)), s6, s7, none, none] ∧ Keeps L H H' ∧ H' L = some (.lst (ts.map V.ref)) ∧ AllR (TupR nn mm) H' ts (cand nn h rs top), ?_, ?_⟩
    · refine ⟨_, rfl, _, _, rfl, rfl, _, rfl, ?_⟩
      by_cases h1 : 1 < h
      · rw [decide_eq_true h1]
        rw [if_neg (by omega)] at ak2
        refine iteT ?_
        refine ⟨_, rfl, _, _, rfl, rfl, 1, nn + 1, rfl, ⟨by decide, by decide, by omega, by omega⟩, ?_⟩
        rw [show (nn + 1 - 1).toNat = nn.toNat by omega]
        refine for_range (lo := 1) (n := nn.toNat) (fun i σ H' => ∃ ts s6, σ = [some (.int nn), some (.int mm), some (.int h), some (.ref te), some (.ref L), some (.int (top : Nat)), s6, s7, none, none] ∧ Keeps L H H' ∧ H' L = some (.lst (ts.map V.ref)) ∧ ts.length ≤ 4 * i ∧ AllR (TupR nn mm) H' ts ((List.range' 1 i).flatMap fun (s : Nat) => [none, some 0, some (-1), some 1].map (mk2 h rs s))) ⟨ts, s6, rfl, Same.keeps e2, hL2, by rw [ak2.len]; exact Nat.le_refl _, ak2⟩ (fun i σ H3 hi pv => ?_) fun σ H3 pv => ?_
        · obtain ⟨us, s6', rfl, k3, hL3, ul, ak3⟩ := pv
          refine ⟨_, rfl, .inl ⟨rfl, _, SqL.of hL3⟩, ?_⟩
          have hte3 : H3 te = some (.tup (rs.map V.int)) := k3 _ _ (ne_of_none hte hL) hte
          dsimp only [tCons, tNil]
          refine tlc_objs (K := K) (R := TupR nn mm) (tupR_s nn mm) (tupR_k nn mm) (xs := [none, some 0, some (-1), some 1].map optV) (kdS h rs (i + 1)) (fun R' r => ?_) (by show 4 < sizeLine; decide) (fun _ => rfl) (fun x hx H4 e4 Q' q' => ?_) fun D H4 ys e4 hD h4 ak => ?_
          · exact ⟨1, rfl, (by show 4 ≤ sizeLine; decide), fun M hM => r M _ (Same.new hM) (sqA_l upd_same)⟩
          · obtain ⟨b, _, rfl⟩ := List.mem_map.mp hx
            refine ⟨_, rfl, _, rfl, _, rfl, _, rfl, _, rfl, _, rfl, (by show 7 ≤ sizeLine; decide), fun t ht => q' t _ (Same.new ht) ⟨te, ?_, ?_⟩⟩
            · rw [upd_same]
              cases b <;> (simp only [kdL, kdS, mk2, optV]; rw [show (1 + (i : Int)) = ((i + 1 : Nat) : Int) by omega])
            · refine Same.new ht _ _ ?_
              have z := e4 _ _ hte3
              cases b <;> exact z
          · have hL4 := e4 _ _ hL3
            refine ⟨L, D, _, _, rfl, rfl, hL4, h4, ?_, us ++ ys, _, rfl, (k3.trans (Same.keeps e4)).trans Keeps.upd, ?_, ?_, ?_⟩
            · rw [List.length_map, List.length_map, ak.len]
              exact Nat.le_trans (show _ ≤ 10000 by simp; omega) (by decide)
            · rw [upd_same, List.map_append]
            · rw [List.length_append, ak.len]
              simp
              omega
            · rw [List.range'_1_concat, List.flatMap_append, show (([1 + i] : List Nat).flatMap fun (s : Nat) => [none, some 0, some (-1), some 1].map (mk2 h rs s)) = ([none, some 0, some (-1), some 1].map optV).map (kdS h rs (i + 1)) by rw [Nat.add_comm]; rfl]
              exact ((ak3.imp fun _ _ z => tupR_k nn mm _ _ _ _ _ _ hL4 Keeps.upd (tupR_s nn mm _ _ _ _ e4 z))).app (ak.imp fun _ _ z => tupR_k nn mm _ _ _ _ _ _ hL4 Keeps.upd z)
        · obtain ⟨us, s6', rfl, k3, hL3, ul, ak3⟩ := pv
          refine ⟨us, s6', s7, rfl, k3, hL3, ?_⟩
          unfold cand
          rw [if_neg (by omega), if_neg (by omega)]
          exact ak3
      · rw [decide_eq_false h1]
        refine iteF ⟨ts, s6, s7, rfl, Same.keeps e2, hL2, ?_⟩
        rw [if_pos (by omega)] at ak2
        exact ak2
    rintro σ2 H3 ⟨us, s6', s7', rfl, k3, hL3, ak3⟩
    dsimp only [tNext, tSeq, gName, tAsg, tRet]
    have ul : us.length < sizeLine := by
      rw [ak3.len]
      unfold cand
      have tt : top ≤ 1000000 := htop
      split
      · exact Nat.lt_of_lt_of_le (show 1 < 1000 by decide) (by decide)
      · split
        · rw [List.length_map]
          split
          · exact Nat.lt_of_lt_of_le (show (List.range 7).length < 1000 by decide) (by decide)
          · rw [List.length_range']
            exact Nat.lt_of_le_of_lt tt (by decide)
        · have h1 : ∀ l : List Nat, (l.flatMap fun (s : Nat) => [none, some 0, some (-1), some 1].map (mk2 h rs s)).length = 4 * l.length := by
            intro l
            induction l with
            | nil => rfl
            | cons x r ih =>
              rw [List.flatMap_cons, List.length_append, ih, List.length_cons]
              simp
              omega
          rw [h1, List.length_range']
          exact Nat.lt_of_le_of_lt (show _ ≤ 10000 by omega) (by decide)
    obtain ⟨ts', ef, af⟩ := allT_filt ak3
    have mem : ∀ x ∈ us.map V.ref, ∃ t kd, x = .ref t ∧ IsTup H3 t nn mm kd ∧ LawIn nn mm kd := fun x hx => by
      obtain ⟨t, ht, rfl⟩ := List.mem_map.mp hx
      obtain ⟨i, hi⟩ := List.getElem?_of_mem ht
      obtain ⟨kd, hk, it⟩ := ak3.get hi
      exact ⟨t, kd, rfl, it, cand_in hl hn hm hh hp hri hs (List.mem_of_getElem? hk)⟩
    refine tlc_filt (K := K) (xs := us.map V.ref) (okT H3 nn mm) (fun R' r => ⟨_, rfl, r L _ (Same.refl _) (sqA_l hL3)⟩) (by rw [List.length_map]; exact ul) (fun _ => rfl) (fun x hx H4 e4 Q' q' => ?_) (fun x hx H1 Q' q' => ⟨_, rfl, q'⟩) fun D H4 e4 hD h4 => ?_
    · obtain ⟨t, kd, rfl, it, li⟩ := mem x hx
      refine ⟨_, rfl, t, nn, mm, kd, rfl, it.same e4, li, fun r H5 e5 hr => ⟨rfl, _, rfl, ?_⟩⟩
      rw [hr, ← okT_of it]
      exact q' _ e5
    · rw [ef] at h4
      exact q D H4 ts' ((k3.trans (Same.keeps e4)).same hL) (Same.nn (k3.same hL) hD) h4 (af.imp fun _ _ z => tupR_s nn mm _ _ _ _ e4 z)
end
end C53
set_option Elab.async false
set_option linter.all false
set_option maxRecDepth 100000
set_option maxHeartbeats 1000000
namespace C53
open PySem PySem.Spec PyProof.Rows L2 Ex
abbrev s__law_same_kind : Stmt := topS 67
abbrev N__law_same_kind : List Str := ["told", "kd", "some", "one"]
theorem sc__law_same_kind : FnScope N__law_same_kind ["told", "kd"] (defScope s__law_same_kind) := ⟨rfl, rfl, rfl, by decide +kernel, rfl, by decide +kernel, by decide +kernel⟩
abbrev s__law_kinds_told : Stmt := topS 68
abbrev N__law_kinds_told : List Str := ["got", "due", "at"]
theorem sc__law_kinds_told : FnScope N__law_kinds_told ["got", "due"] (defScope s__law_kinds_told) := ⟨rfl, rfl, rfl, by decide +kernel, rfl, by decide +kernel, by decide +kernel⟩
/-- what isinstance asks of an own class -/
structure InsC (K : PySem.W.Frag) (C : Addr) : Prop where
  cl : Cls K C
  ha : PySem.W.findIn K (.ref C) "__class__" = some (some (.builtin "object.__class__"))
  hn : PySem.W.specialIn K (.builtin "object.__class__") "__get__" = some (some (.builtin "getset_descriptor.__get__"))
  htk : PySem.W.takesIn K (.builtin "object.__class__") = some true
  hm : PySem.W.mroIn K C (.type "object") = some true
theorem kit_self {K : PySem.W.Frag} {C : Addr} : PySem.W.kitOne K (.ref C) (.ref C) = some true := by
  unfold PySem.W.kitOne
  rw [if_pos (by simp)]
structure CalTxt (P : Program) (w : World) (K : PySem.W.Frag) (mg : Str → Option Value) (base : Heap) (k : Nat) (CK : Addr) (sp : Sp) : Prop where
  ex : ∃ f fd, Cls K CK ∧ Meth K CK "text" f ∧ FnOk P w K mg base CX0 k f fd ["self"] sp ∧ Binds K fd ["self"] []
theorem pe_text {X : Cx} {k : Nat} {CK : Addr} {sp : Sp} {o : Expr} {ta : TE} {apos pos : Pos} {pl : Sem Bool} (C : CalTxt X.prog X.w X.K X.mg X.base k CK sp) (hr : Room k X.A) (he : PE X o ta)
    (ht : eval (.Call (.Attribute o "text" apos) [] [] pos) X.env = (do
      let ov ← eval o X.env
      standAt apos.atName
      let (f, first) ← holding [ov] (getMethod ov "text" pl)
      callWith pos f first (backTo pos (starEach [] X.env)) (backToKw pos (keywordEach [] X.env))) := by rfl) : PE X (.Call (.Attribute o "text" apos) [] [] pos) (tMeth CK "text" sp [] E0 ta tNil) := by
  obtain ⟨f, fd, c, hm, F, hb⟩ := C.ex
  exact pe_meth0 he c hm F hr hb .nil pass0 ht
theorem kf_text (p : Addr) (h : Int) (t : Addr) (m s b : Option Int) : (kf p h t m s b).lookup ("text" : Str) = none := by with_unfolding_all rfl
def row6 (nn mm : Int) (kd : Kd) : List (Option Int) := [some nn, some mm, some kd.h, kd.m, kd.s, kd.b] ++ kd.rs.map some
theorem row6_v (nn mm : Int) (kd : Kd) : [V.int nn, V.int mm, V.int kd.h, optV kd.m, optV kd.s, optV kd.b] ++ kd.rs.map V.int = (row6 nn mm kd).map optV := by
  unfold row6
  rw [List.map_append, mapI]
  rfl
section
variable {P : Program} {w : World} {K : PySem.W.Frag} {mg : Str → Option Value} {base : Heap} {k : Nat} {f : Addr} {fd : FuncData}
def SgnOk (kd : Kd) : Prop := 2 ≤ kd.h → kd.b = none ∨ kd.b = some 1 ∨ kd.b = some 0 ∨ kd.b = some (-1)
def spSame (K : PySem.W.Frag) (CB CK : Addr) : Sp := fun vs H Q _ => ∃ (x t : Addr) (nn mm : Int) (kd : Kd), vs = [.ref x, .ref t] ∧ IsKind CB CK K H x nn mm kd ∧ IsTup H t nn mm kd ∧ TxtOk nn mm kd ∧ kd.rs ≠ [] ∧ SgnOk kd ∧ ∀ H', Same H H' → Q (.bl true) H'
theorem ok_law_same_kind {CB CK : Addr} (T : Tx mg) (B : BookC K CB) (KC : KindC K CK) (IB : InsC K CB) (IK : InsC K CK) (G_Kind : mg "Kind" = some (.ref CK)) (G_Book : mg "Book" = some (.ref CB)) (C_text : CalTxt P w K mg base k CK (spKindText K CB CK))
    (C_law_kind_text : Cal P w K mg base k "_law_kind_text" ["kd"] spTextL) (F : Fun K "_law_same_kind" "_law_same_kind" s__law_same_kind f fd) : FnOk P w K mg base CX0 (k + 1) f fd ["told", "kd"] (spSame K CB CK) := by
  refine F.ok sc__law_same_kind (fun vs H Q E h => ?_) (fun cdv A outer s H vs Q E hr h => ?_)
  · obtain ⟨_, _, _, _, _, rfl, _⟩ := h
    rfl
  · obtain ⟨x, t, nn, mm, kd, rfl, ik, it, ok, hne, sg, q⟩ := h
    obtain ⟨dx, p, tr, hx, hb, htr⟩ := id ik.ex
    obtain ⟨te, ht, hte⟩ := id it.ex
    obtain ⟨dp, hp⟩ := id hb
    refine ⟨_, PSs.nox (pss_cons (ps_if (PW.pt (pw_or (pt_not (pt_val (pe_callB call_isi (by rfl) T.b_isinstance (by decide +kernel) (pa_cons (pv 0) (pa_cons (pe_glob (v := .ref CK) rfl G_Kind rfl) pa_nil))))) (pw_or (pt_not (pt_val (pe_callB call_isi (by rfl) T.b_isinstance (by decide +kernel) (pa_cons (pe_fld (pv 0) rfl) (pa_cons (pe_bltn (v := .ty "tuple") (u := .type "tuple") (by rfl) T.b_tuple (by decide +kernel) rfl) pa_nil))))) (pw_or1 (pt_not (pt_val (pe_callB call_isi (by rfl) T.b_isinstance (by decide +kernel) (pa_cons (pe_fld (pv 0) rfl) (pa_cons (pe_glob (v := .ref CB) rfl G_Book rfl) pa_nil))))))))) (pss_one (ps_ret pe_bl)) pss_nil)
    (pss_cons (ps_set (i := 2) sc__law_same_kind.nd rfl (.inl rfl) (pe_op op_cat (pe_lst (pa_cons (pe_fld (pe_fld (pv 0) rfl) rfl) (pa_cons (pe_fld (pe_fld (pv 0) rfl) rfl) (pa_cons (pe_fld (pv 0) rfl) (pa_cons (pe_fld (pv 0) rfl) (pa_cons (pe_fld (pv 0) rfl) (pa_cons (pe_fld (pv 0) rfl) pa_nil))))))) (pe_callTy call_list_of (by rfl) T.b_list (by decide +kernel) (pa_cons (pe_fld (pv 0) rfl) pa_nil))))
    (pss_cons (ps_if (pt_not (pt_val (pe_callB (cr_all rfl) (by rfl) T.b_all (by decide +kernel) (pa_cons (pe_lc (own := [("one", 3)]) (g := gName 3) rfl sc__law_same_kind.nd (pi_seq (pv 2)) (blkOk_by (own := [("one", 3)]) (N := N__law_same_kind) (sc := defScope s__law_same_kind) (by decide +kernel)) (fun _ _ _ _ _ => pg_name (i := 3) sc__law_same_kind.nd rfl (.inl rfl)) (fun _ _ _ _ _ => pts_nil) (fun _ _ _ _ _ => (pe_or (pe_cmpR op_isN (pv 3) pe_non (nomark _)) (pe_one (pe_and (pe_callB (call_isiK' (K := K) rfl) (by rfl) T.b_isinstance (by decide +kernel) (pa_cons (pv 3) (pa_cons (pe_bltn (v := .ty "int") (u := .type "int") (by rfl) T.b_int (by decide +kernel) rfl) pa_nil))) (pe_one (pe_not (pe_callB (call_isiK' (K := K) rfl) (by rfl) T.b_isinstance (by decide +kernel) (pa_cons (pv 3) (pa_cons (pe_bltn (v := .ty "bool") (u := .type "bool") (by rfl) T.b_bool (by decide +kernel) rfl) pa_nil)))))))))) pa_nil)))) (pss_one (ps_ret pe_bl)) pss_nil)
    (pss_one (ps_ret (pe_and (pe_cmpR (op_eqD (by exact hr.units)) (pv 2) (pe_op op_cat (pe_lst (pa_cons (pe_ix ix_A (pv 1) pe_int (fun _ _ => rfl)) (pa_cons (pe_ix ix_A (pv 1) pe_int (fun _ _ => rfl)) (pa_cons (pe_ix ix_A (pv 1) pe_int (fun _ _ => rfl)) (pa_cons (pe_ix ix_A (pv 1) pe_int (fun _ _ => rfl)) (pa_cons (pe_ix ix_A (pv 1) pe_int (fun _ _ => rfl)) (pa_cons (pe_ix ix_A (pv 1) pe_int (fun _ _ => rfl)) pa_nil))))))) (pe_callTy call_list_of (by rfl) T.b_list (by decide +kernel) (pa_cons (pe_ix ix_A (pv 1) pe_int (fun _ _ => rfl)) pa_nil))) (nomark _)) (pe_one (pe_cmpR op_eq (pe_text C_text hr (pv 0)) (pe_u C_law_kind_text hr (pa_cons (pv 1) pa_nil)) (nomark _))))))))), ?_⟩
    refine ⟨_, rfl, _, .ref CK, _, _, true, rfl, .own CK, .base (.ins hx IK.cl IK.ha IK.hn IK.htk IK.hm), kit_self, _, rfl, iteF ?_⟩
    refine ⟨_, rfl, x, CK, dx, _, _, rfl, hx, KC.cl, KC.n3, kf_rims .., _, .ty "tuple", _, _, true, rfl, .ty _, .base (.tup htr), kit_ty (by decide +kernel), _, rfl, iteF ?_⟩
    refine ⟨_, rfl, x, CK, dx, _, _, rfl, hx, KC.cl, KC.n1, kf_book .., _, .ref CB, _, _, true, rfl, .own CB, .base (.ins hp IB.cl IB.ha IB.hn IB.htk IB.hm), kit_self, _, rfl, iteF ?_⟩
    refine ⟨_, rfl, x, CK, dx, _, _, rfl, hx, KC.cl, KC.n1, kf_book .., p, CB, dp, _, _, rfl, hp, B.cl, B.nA, bf_arms _ _, ?_⟩
    refine ⟨_, rfl, x, CK, dx, _, _, rfl, hx, KC.cl, KC.n1, kf_book .., p, CB, dp, _, _, rfl, hp, B.cl, B.nM, bf_modulus _ _, ?_⟩
    refine ⟨_, rfl, x, CK, dx, _, _, rfl, hx, KC.cl, KC.n2, kf_handles .., ?_⟩
    refine ⟨_, rfl, x, CK, dx, _, _, rfl, hx, KC.cl, KC.n4, kf_measure .., ?_⟩
    refine ⟨_, rfl, x, CK, dx, _, _, rfl, hx, KC.cl, KC.n5, kf_share .., ?_⟩
    refine ⟨_, rfl, x, CK, dx, _, _, rfl, hx, KC.cl, KC.n6, kf_balance .., ?_⟩
    refine ⟨(by show 6 ≤ sizeLine; decide), fun L1 hL1 => ?_⟩
    refine ⟨_, rfl, x, CK, dx, _, _, rfl, Same.new hL1 _ _ hx, KC.cl, KC.n3, kf_rims .., tr, _, rfl, .inr (SqT.of (Same.new hL1 _ _ htr)), fun L2 hL2 => ?_⟩
    refine ⟨L1, L2, _, _, rfl, rfl, Same.new hL2 _ _ upd_same, upd_same, ?_, fun L3 hL3 => ?_⟩
    · rw [List.length_map]
      have := ok.l
      exact Nat.le_trans (show _ ≤ 2000 by simp; omega) (by decide)
    have e3 := (Same.new (o := HO.lst [V.int nn, V.int mm, V.int kd.h, optV kd.m, optV kd.s, optV kd.b]) hL1).trans ((Same.new (o := HO.lst (kd.rs.map V.int)) hL2).trans (Same.new (o := HO.lst ([V.int nn, V.int mm, V.int kd.h, optV kd.m, optV kd.s, optV kd.b] ++ kd.rs.map V.int)) hL3))
    have h3 : upd (upd (upd H L1 (.lst [V.int nn, V.int mm, V.int kd.h, optV kd.m, optV kd.s, optV kd.b])) L2 (.lst (kd.rs.map V.int))) L3 (.lst ([V.int nn, V.int mm, V.int kd.h, optV kd.m, optV kd.s, optV kd.b] ++ kd.rs.map V.int)) L3 = some (.lst ((row6 nn mm kd).map optV)) := by rw [upd_same, row6_v]
    revert e3 h3
    generalize upd (upd (upd H L1 (.lst [V.int nn, V.int mm, V.int kd.h, optV kd.m, optV kd.s, optV kd.b])) L2 (.lst (kd.rs.map V.int))) L3 (.lst ([V.int nn, V.int mm, V.int kd.h, optV kd.m, optV kd.s, optV kd.b] ++ kd.rs.map V.int)) = H3
    intro e3 h3
    clear hL1 hL2 hL3
    dsimp only [tNext, tSeq, gName, tAsg, tRet, tCB, tB, tIfS, tCons, tNil, tNot]
    have rl : ((row6 nn mm kd).map optV).length < sizeLine := by
      have := ok.l
      rw [List.length_map]
      unfold row6
      exact Nat.lt_of_le_of_lt (show _ ≤ 2000 by simp; omega) (by decide)
    refine tlc_pure (K := K) (a := L3) (xs := (row6 nn mm kd).map optV) (fun _ => V.bl true) (fun R r => ⟨_, rfl, r⟩) (sqA_l h3) rl (fun _ => rfl) (fun y hy H' e Q' q' => ?_) fun D hD => ?_
    · obtain ⟨o, _, rfl⟩ := List.mem_map.mp hy
      refine ⟨_, rfl, rfl, _, rfl, ?_⟩
      rw [optN]
      cases o with
      | none => exact iteT q'
      | some i =>
        refine iteF ?_
        refine ⟨_, rfl, _, .ty "int", _, _, true, rfl, .ty _, .base (.int i), kit_ty (by decide +kernel), _, rfl, iteT ?_⟩
        exact ⟨_, rfl, _, .ty "bool", _, _, false, rfl, .ty _, .base (.int i), kit_ty (by decide +kernel), _, rfl, q'⟩
    have hall : ∀ l : List V, ((l.map fun _ => V.bl true)) = (l.map fun _ => true).map V.bl := fun l => by rw [List.map_map]; rfl
    have e4 := e3.trans (Same.new (o := HO.lst (((row6 nn mm kd).map optV).map fun _ => V.bl true)) hD)
    have h4 := Same.new (o := HO.lst (((row6 nn mm kd).map optV).map fun _ => V.bl true)) hD _ _ h3
    refine ⟨D, ((row6 nn mm kd).map optV).map fun _ => true, rfl, SqL.of (by rw [upd_same, hall]), _, rfl, ?_⟩
    rw [show (((row6 nn mm kd).map optV).map fun _ => true).all id = true by exact List.all_eq_true.mpr fun b hb => by obtain ⟨_, _, rfl⟩ := List.mem_map.mp hb; rfl]
    refine iteF ?_
    have ht4 := e4 _ _ ht
    revert e4 h4 ht4
    generalize upd H3 D (.lst (((row6 nn mm kd).map optV).map fun _ => V.bl true)) = H4
    intro e4 h4 ht4
    refine ⟨_, rfl, ?_⟩
    refine ⟨_, rfl, rix_A (sqA_t ht4) rfl ⟨_, rfl, rix_A (sqA_t ht4) rfl ⟨_, rfl, rix_A (sqA_t ht4) rfl ⟨_, rfl, rix_A (sqA_t ht4) rfl ⟨_, rfl, rix_A (sqA_t ht4) rfl ⟨_, rfl, rix_A (sqA_t ht4) rfl ?_⟩⟩⟩⟩⟩⟩
    refine ⟨(by show 6 ≤ sizeLine; decide), fun M1 hM1 => ?_⟩
    refine ⟨_, rfl, rix_A (sqA_t (Same.new hM1 _ _ ht4)) rfl ⟨te, _, rfl, .inr (SqT.of (Same.new hM1 _ _ (e4 _ _ hte))), fun M2 hM2 => ?_⟩⟩
    refine ⟨M1, M2, _, _, rfl, rfl, Same.new hM2 _ _ upd_same, upd_same, ?_, fun M3 hM3 => ?_⟩
    · rw [List.length_map]
      have := ok.l
      exact Nat.le_trans (show _ ≤ 2000 by simp; omega) (by decide)
    have e5 := e4.trans ((Same.new (o := HO.lst [V.int nn, V.int mm, V.int kd.h, optV kd.m, optV kd.s, optV kd.b]) hM1).trans ((Same.new (o := HO.lst (kd.rs.map V.int)) hM2).trans (Same.new (o := HO.lst ([V.int nn, V.int mm, V.int kd.h, optV kd.m, optV kd.s, optV kd.b] ++ kd.rs.map V.int)) hM3)))
    refine rd_eqO (l := row6 nn mm kd) (m := row6 nn mm kd) (SqL.of (Same.new hM3 _ _ (Same.new hM2 _ _ (Same.new hM1 _ _ h4)))) (SqL.of (by rw [upd_same]; rw [← row6_v])) ⟨_, rfl, ?_⟩
    rw [decide_eq_true rfl]
    refine iteT ?_
    refine ⟨_, rfl, x, dx, _, rfl, e5 _ _ hx, kf_text .., x, nn, mm, kd, rfl, ik.same e5, ok, fun H6 e6 => ?_⟩
    refine ⟨_, rfl, t, nn, mm, kd, rfl, it.same (e5.trans e6), ok, hne, sg, fun H7 e7 => ?_⟩
    refine ⟨rfl, ?_⟩
    rw [decide_eq_true rfl]
    exact q _ ((e5.trans e6).trans e7)
def spTold (K : PySem.W.Frag) (CB CK : Addr) : Sp := fun vs H Q _ => ∃ (g d : Addr) (nn mm : Int) (xs ts : List Addr) (ks : List Kd), vs = [.ref g, .ref d] ∧ H g = some (.lst (xs.map V.ref)) ∧ H d = some (.lst (ts.map V.ref)) ∧ AllK CB CK K H nn mm xs ks ∧ AllR (TupR nn mm) H ts ks ∧ ks.length ≤ 100000 ∧ (∀ kd ∈ ks, TxtOk nn mm kd ∧ kd.rs ≠ [] ∧ SgnOk kd) ∧ ∀ H', Same H H' → Q (.bl true) H'
theorem ok_law_kinds_told {CB CK : Addr} (T : Tx mg) (C_law_same_kind : Cal P w K mg base k "_law_same_kind" ["told", "kd"] (spSame K CB CK)) (F : Fun K "_law_kinds_told" "_law_kinds_told" s__law_kinds_told f fd) : FnOk P w K mg base CX0 (k + 1) f fd ["got", "due"] (spTold K CB CK) := by
  refine F.ok sc__law_kinds_told (fun vs H Q E h => ?_) (fun cdv A outer s H vs Q E hr h => ?_)
  · obtain ⟨_, _, _, _, _, _, _, rfl, _⟩ := h
    rfl
  · obtain ⟨g, d, nn, mm, xs, ts, ks, rfl, hg, hd, ak, at_, kl, kok, q⟩ := h
    have l1 := ak.len
    have l2 := at_.len
    refine ⟨_, PSs.nox (pss_one (ps_ret (pe_and (pe_callB call_isi (by rfl) T.b_isinstance (by decide +kernel) (pa_cons (pv 0) (pa_cons (pe_bltn (v := .ty "list") (u := .type "list") (by rfl) T.b_list (by decide +kernel) rfl) pa_nil))) (pe_and (pe_cmpR op_eq (pe_callB call_len_seq (by rfl) T.b_len PySem.boot_len (pa_cons (pv 0) pa_nil)) (pe_callB call_len_seq (by rfl) T.b_len PySem.boot_len (pa_cons (pv 1) pa_nil)) (nomark _)) (pe_one (pe_callB (cr_all rfl) (by rfl) T.b_all (by decide +kernel) (pa_cons (pe_lc (own := [("at", 2)]) (g := gName 2) rfl sc__law_kinds_told.nd (pi_range1 rfl T.b_range (pa_cons (pe_callB call_len_seq (by rfl) T.b_len PySem.boot_len (pa_cons (pv 1) pa_nil)) pa_nil)) (blkOk_by (own := [("at", 2)]) (N := N__law_kinds_told) (sc := defScope s__law_kinds_told) (by decide +kernel)) (fun _ _ _ _ _ => pg_name (i := 2) sc__law_kinds_told.nd rfl (.inl rfl)) (fun _ _ _ _ _ => pts_nil) (fun _ _ _ _ _ => (pe_u C_law_same_kind hr (pa_cons (pe_ix (ix_AK (K := K) rfl) (pv 0) (pv 2) (fun _ _ => rfl)) (pa_cons (pe_ix (ix_AK (K := K) rfl) (pv 1) (pv 2) (fun _ _ => rfl)) pa_nil))))) pa_nil))))))), ?_⟩
    refine ⟨_, rfl, _, .ty "list", _, _, true, rfl, .ty _, .base (.lst hg), kit_ty (by decide +kernel), _, rfl, iteT ?_⟩
    refine ⟨_, rfl, g, _, rfl, .inl (SqL.of hg), _, rfl, d, _, rfl, .inl (SqL.of hd), rfl, _, rfl, ?_⟩
    rw [decI, List.length_map, List.length_map, decide_eq_true (by rw [l1, l2])]
    refine iteT ?_
    dsimp only [tNext, tSeq, gName, tAsg, tRet, tCB, tB, tIfS, tCons, tNil]
    refine ⟨_, rfl, d, _, rfl, .inl (SqL.of hd), ?_⟩
    refine ⟨_, rfl, by omega, ?_, fun D hD => ?_⟩
    · rw [List.length_map]
      omega
    rw [List.length_map, Int.toNat_natCast]
    refine lc_range (lo := 0) (n := ts.length) (fun i H' => Keeps D H H' ∧ H' D = some (.lst ((List.replicate i true).map V.bl))) ⟨Keeps.upd, upd_same⟩ (fun i H' hi pv => ⟨rfl, ?_⟩) fun H' pv => ?_
    · unfold tYes
      refine iteT ?_
      have e1 : Same H H' := pv.1.same hD
      have hx : xs[i]? = some xs[i] := List.getElem?_eq_getElem (by omega)
      have hy : ts[i]? = some ts[i] := List.getElem?_eq_getElem hi
      obtain ⟨kd, hk, ik⟩ := ak.get hx
      obtain ⟨kd', hk', it⟩ := at_.get hy
      rw [hk] at hk'
      obtain rfl := Option.some.inj hk'
      have m := kok kd (List.mem_of_getElem? hk)
      have a1 : atI (xs.map V.ref) (0 + (i : Int)) = some (.ref xs[i]) := by
        rw [Int.zero_add]
        refine atI_nat ?_
        rw [List.getElem?_map, hx]
        rfl
      have a2 : atI (ts.map V.ref) (0 + (i : Int)) = some (.ref ts[i]) := by
        rw [Int.zero_add]
        refine atI_nat ?_
        rw [List.getElem?_map, hy]
        rfl
      refine ⟨_, rfl, _, rfl, rix_A (sqA_l (e1 _ _ hg)) a1 ⟨_, rfl, _, rfl, rix_A (sqA_l (e1 _ _ hd)) a2 ?_⟩⟩
      refine ⟨_, _, nn, mm, kd, rfl, ik.same e1, IsTup.same e1 it, m.1, m.2.1, m.2.2, fun H2 e2 => ?_⟩
      refine ⟨_, e2 _ _ pv.2, ?_, (pv.1.trans (Same.keeps e2)).trans Keeps.upd, ?_⟩
      · rw [List.length_map, List.length_replicate]
        exact Nat.lt_of_le_of_lt (show i ≤ 100000 by omega) (by decide)
      · rw [upd_same, List.replicate_succ', List.map_append]
        rfl
    · refine ⟨D, List.replicate ts.length true, rfl, SqL.of pv.2, ?_⟩
      rw [show (List.replicate ts.length true).all id = true from List.all_eq_true.mpr fun b hb => List.eq_of_mem_replicate hb]
      exact q _ (pv.1.same hD)
end
end C53
set_option linter.all false
/-! plain: sorted rims, their sum -/
namespace C53
open PySem PySem.Spec PyProof.Rows L2 Ex
theorem perm_sum {a b : List Int} (h : a.Perm b) : a.sum = b.sum := by
  induction h with
  | nil => rfl
  | cons x _ ih => rw [List.sum_cons, List.sum_cons, ih]
  | swap x y l =>
    rw [List.sum_cons, List.sum_cons, List.sum_cons, List.sum_cons]
    omega
  | trans _ _ h1 h2 => rw [h1, h2]
theorem incr_of {rs : List Int} (h : rs.Pairwise (· ≤ ·)) : incr rs = true := by
  unfold incr
  rw [Bool.not_eq_true', List.any_eq_false]
  intro i hi
  rw [List.mem_range] at hi
  rw [decide_eq_true_iff]
  have h1 : i < rs.length := by omega
  have h2 : i + 1 < rs.length := by omega
  rw [List.getD_eq_getElem?_getD, List.getD_eq_getElem?_getD, List.getElem?_eq_getElem h1, List.getElem?_eq_getElem h2]
  have := (List.pairwise_iff_getElem.mp h) i (i + 1) h1 h2 (by omega)
  show ¬ rs[i + 1] < rs[i]
  omega
theorem rimsOk_of {mm : Int} {rs : List Int} (hne : rs ≠ []) (h : rs.Pairwise (· ≤ ·)) (hr : mm = 0 ∨ ∀ r ∈ rs, 0 ≤ r ∧ r < mm) : rimsOk mm rs = true := by
  unfold rimsOk
  rw [Bool.and_eq_true, Bool.and_eq_true]
  refine ⟨⟨?_, incr_of h⟩, ?_⟩
  · cases rs with
    | nil => exact absurd rfl hne
    | cons => rfl
  · rcases hr with hr | hr
    · rw [decide_eq_true hr]
      rfl
    · have hp : 0 < rs.length := List.length_pos_iff.mpr hne
      have g : ∀ i, i < rs.length → rs.getD i 0 ∈ rs := fun i hi => by
        rw [List.getD_eq_getElem?_getD, List.getElem?_eq_getElem hi]
        exact List.getElem_mem hi
      have g0 := hr _ (g 0 hp)
      have g1 := hr _ (g (rs.length - 1) (by omega))
      rw [decide_eq_true g0.1, decide_eq_true g1.2]
      simp
theorem red_range {mm r : Int} (hm : 0 < mm) : 0 ≤ red' mm r ∧ red' mm r < mm := by
  unfold red'
  rw [if_neg (by omega)]
  exact ⟨Int.emod_nonneg _ (by omega), Int.emod_lt_of_pos _ hm⟩
theorem red_sum {mm : Int} (es : List Int) : ∃ q, (es.map (red' mm)).sum = es.sum + mm * q := by
  induction es with
  | nil => exact ⟨0, by simp⟩
  | cons e r ih =>
    obtain ⟨q, hq⟩ := ih
    rw [List.map_cons, List.sum_cons, List.sum_cons, hq]
    unfold red'
    split
    · rename_i e0
      exact ⟨q, by omega⟩
    · refine ⟨q - e / mm, ?_⟩
      have := Int.emod_add_mul_ediv e mm
      rw [Int.mul_sub]
      omega
theorem sumOk_of {nn mm h : Int} {rs es : List Int} (hp : rs.Perm (es.map (red' mm))) (hs : es.sum = dueSum nn h es.length) : sumOk nn mm h rs = true := by
  obtain ⟨q, hq⟩ := red_sum (mm := mm) es
  have hl : rs.length = es.length := by rw [hp.length_eq, List.length_map]
  unfold sumOk
  rw [perm_sum hp, hq, hl, hs]
  rw [show dueSum nn h es.length + mm * q - dueSum nn h es.length = mm * q by omega]
  unfold dvd'
  split
  · rename_i e
    rw [e, Int.zero_mul]
    exact decide_eq_true rfl
  · rw [Int.mul_emod_right]
    exact decide_eq_true rfl
theorem mul_bound {a b : Int} {m n : Nat} (ha : a.natAbs ≤ m) (hb : b.natAbs ≤ n) : (a * b).natAbs ≤ m * n := by
  rw [Int.natAbs_mul]
  exact Nat.mul_le_mul ha hb
theorem sum_bound {n : Nat} : ∀ es : List Int, (∀ e ∈ es, e.natAbs ≤ n) → es.sum.natAbs ≤ es.length * n
  | [], _ => Nat.zero_le _
  | e :: r, h => by
    have h1 := h e (List.mem_cons_self ..)
    have h2 := sum_bound r fun z hz => h z (List.mem_cons_of_mem _ hz)
    rw [List.sum_cons, List.length_cons, Nat.succ_mul]
    have := Int.natAbs_add_le e r.sum
    omega
theorem gN_le {zs : List Int} {z : Int} (hz : z ∈ zs) (h0 : z ≠ 0) : 0 < gN zs ∧ gN zs ≤ z.natAbs := by
  have hd := (dvd_gN (gN zs) zs).mp (Nat.dvd_refl _) z hz
  refine ⟨?_, Nat.le_of_dvd (by omega) hd⟩
  rcases Nat.eq_zero_or_pos (gN zs) with e | e
  · rw [e] at hd
    have := Nat.eq_zero_of_zero_dvd hd
    omega
  · exact e
end C53
set_option Elab.async false
set_option linter.all false
set_option maxRecDepth 100000
set_option maxHeartbeats 1000000
namespace C53
open PySem PySem.Spec PyProof.Rows L2 Ex
abbrev s__law_scale : Stmt := topS 64
abbrev N__law_scale : List Str := ["bag", "nn", "mm"]
theorem sc__law_scale : FnScope N__law_scale ["bag"] (defScope s__law_scale) := ⟨rfl, rfl, rfl, by decide +kernel, rfl, by decide +kernel, by decide +kernel⟩
section
variable {P : Program} {w : World} {K : PySem.W.Frag} {mg : Str → Option Value} {base : Heap} {k : Nat} {f : Addr} {fd : FuncData}
def spScale : Sp := fun vs H Q _ => ∃ (b A : Addr), vs = [.ref b] ∧ BagOk H b A ∧ ∀ t nn mm H', BagOk H' b A → Keeps b H H' → H t = none → H' t = some (.tup [.int nn, .int mm]) → (1 ≤ nn ∧ nn ≤ 12) → (mm = 0 ∨ (2 ≤ mm ∧ mm ≤ 24)) → Q (.ref t) H'
theorem BagOk.here {H : Hp} {b A : Addr} (h : BagOk H b A) : ∃ o, H b = some o := let ⟨_, _, _, _, _, q, _⟩ := h.ex; ⟨_, q⟩
theorem keeps_nn {b a : Addr} {H H' : Hp} (k : Keeps b H H') (n : a ≠ b) (h : H' a = none) : H a = none := by
  rcases q : H a with _ | o
  · rfl
  · rw [k _ _ n q] at h
    cases h
theorem ok_law_scale (T : Tx mg) (C_law_draw : Cal P w K mg base k "_law_draw" ["bag", "below"] spDraw) (F : Fun K "_law_scale" "_law_scale" s__law_scale f fd) : FnOk P w K mg base CX0 (k + 1) f fd ["bag"] spScale := by
  refine F.ok sc__law_scale (fun vs H Q E h => ?_) (fun cdv A outer s H vs Q E hr h => ?_)
  · obtain ⟨_, _, rfl, _⟩ := h
    rfl
  · obtain ⟨b, Ac, rfl, hb, q⟩ := h
    refine ⟨_, PSs.nox (pss_cons (ps_cut (ps_par (i := 1) (j := 2) rfl sc__law_scale.nd rfl rfl (by decide) rfl rfl (pa_cons (pe_op op_add pe_int (pe_u C_law_draw hr (pa_cons (pv 0) (pa_cons (pe_ifExp (pt_cmpR op_eq (pe_u C_law_draw hr (pa_cons (pv 0) (pa_cons pe_int pa_nil))) pe_int (nomark _)) pe_int pe_int) pa_nil)))) (pa_cons pe_int pa_nil)) (by rfl)))
    (pss_cons (ps_cut (ps_if (pt_cmpR op_eq (pe_u C_law_draw hr (pa_cons (pv 0) (pa_cons pe_int pa_nil))) pe_int (nomark _)) (pss_one (ps_set (i := 2) sc__law_scale.nd rfl (.inl rfl) (pe_op op_add pe_int (pe_u C_law_draw hr (pa_cons (pv 0) (pa_cons (pe_ifExp (pt_cmpR op_eq (pe_u C_law_draw hr (pa_cons (pv 0) (pa_cons pe_int pa_nil))) pe_int (nomark _)) pe_int pe_int) pa_nil)))))) pss_nil))
    (pss_one (ps_ret (pe_tup (pa_cons (pv 1) (pa_cons (pv 2) pa_nil))))))), ?_⟩
    refine ⟨fun σ H' => ∃ nn, σ = [some (.ref b), some (.int nn), some (.int 0)] ∧ (1 ≤ nn ∧ nn ≤ 12) ∧ BagOk H' b Ac ∧ Keeps b H H', ?_, ?_⟩
    · refine ⟨_, rfl, _, rfl, b, Ac, 10, rfl, hb, ⟨by decide, by decide⟩, fun d1 H1 _ _ hb1 k1 => ⟨rfl, _, rfl, ?_⟩⟩
      refine ite2 (fun _ => ?_) (fun _ => ?_)
      · exact ⟨b, Ac, 12, rfl, hb1, ⟨by decide, by decide⟩, fun d H2 h0 h1 hb2 k2 => ⟨_, _, rfl, rfl, _, _, rfl, 1 + d, rfl, ⟨by omega, by omega⟩, hb2, k1.trans k2⟩⟩
      · exact ⟨b, Ac, 6, rfl, hb1, ⟨by decide, by decide⟩, fun d H2 h0 h1 hb2 k2 => ⟨_, _, rfl, rfl, _, _, rfl, 1 + d, rfl, ⟨by omega, by omega⟩, hb2, k1.trans k2⟩⟩
    rintro σ1 H1 ⟨nn, rfl, hn, hb1, k1⟩
    refine ⟨fun σ H' => ∃ mm, σ = [some (.ref b), some (.int nn), some (.int mm)] ∧ (mm = 0 ∨ (2 ≤ mm ∧ mm ≤ 24)) ∧ BagOk H' b Ac ∧ Keeps b H H', ?_, ?_⟩
    · refine ⟨_, rfl, b, Ac, 2, rfl, hb1, ⟨by decide, by decide⟩, fun d2 H2 _ _ hb2 k2 => ⟨rfl, _, rfl, ?_⟩⟩
      refine ite2 (fun _ => ?_) (fun _ => ?_)
      · refine ⟨_, rfl, _, rfl, b, Ac, 10, rfl, hb2, ⟨by decide, by decide⟩, fun d3 H3 _ _ hb3 k3 => ⟨rfl, _, rfl, ?_⟩⟩
        refine ite2 (fun _ => ?_) (fun _ => ?_)
        · exact ⟨b, Ac, 23, rfl, hb3, ⟨by decide, by decide⟩, fun d H4 h0 h1 hb4 k4 => ⟨_, _, rfl, rfl, 2 + d, rfl, .inr ⟨by omega, by omega⟩, hb4, ((k1.trans k2).trans k3).trans k4⟩⟩
        · exact ⟨b, Ac, 7, rfl, hb3, ⟨by decide, by decide⟩, fun d H4 h0 h1 hb4 k4 => ⟨_, _, rfl, rfl, 2 + d, rfl, .inr ⟨by omega, by omega⟩, hb4, ((k1.trans k2).trans k3).trans k4⟩⟩
      · exact ⟨0, rfl, .inl rfl, hb2, k1.trans k2⟩
    rintro σ2 H2 ⟨mm, rfl, hm, hb2, k2⟩
    refine ⟨_, rfl, _, rfl, (by show 2 ≤ sizeLine; decide), fun t ht => ?_⟩
    obtain ⟨o, hbo⟩ := hb2.here
    exact q t nn mm _ (hb2.same (Same.new ht)) (k2.trans (Same.keeps (Same.new ht))) (keeps_nn k2 (ne_of_none hbo ht).symm ht) upd_same hn hm
end
end C53
set_option Elab.async false
set_option linter.all false
set_option maxRecDepth 100000
set_option maxHeartbeats 2000000
namespace C53
open PySem PySem.Spec PyProof.Rows L2 Ex
abbrev s__law_kind_on : Stmt := topS 65
abbrev N__law_kind_on : List Str := ["bag", "scale", "pairs", "count", "reach", "nn", "mm", "step", "style", "base", "edge", "lap", "top", "part", "sign", "odd", "one"]
theorem sc__law_kind_on : FnScope N__law_kind_on ["bag", "scale", "pairs", "count", "reach"] (defScope s__law_kind_on) := ⟨rfl, rfl, rfl, by decide +kernel, rfl, by decide +kernel, by decide +kernel⟩
theorem dv_pos {n : Nat} (h : 0 < n) : 0 < (dv n n).length := List.length_pos_of_mem (mem_dv.mpr ⟨⟨Nat.le_refl 1, h⟩, Nat.mod_one n⟩)
section
variable {P : Program} {w : World} {K : PySem.W.Frag} {mg : Str → Option Value} {base : Heap} {k : Nat} {f : Addr} {fd : FuncData}
def spKindOn : Sp := fun vs H Q _ => ∃ (b A sc : Addr) (nn mm h rch : Int) (c : Nat), vs = [.ref b, .ref sc, .int h, .int c, .int rch] ∧ BagOk H b A ∧ H sc = some (.tup [.int nn, .int mm]) ∧ (1 ≤ nn ∧ nn ≤ 12) ∧ (mm = 0 ∨ (2 ≤ mm ∧ mm ≤ 24)) ∧ (0 ≤ h ∧ h ≤ 5) ∧ (1 ≤ c ∧ c ≤ 5) ∧ (0 ≤ rch ∧ rch ≤ 9) ∧
  ∀ t te H' rs u v x, BagOk H' b A → Keeps b H H' → H' t = some (.tup [.int nn, .int mm, .int h, .ref te, u, v, x]) → H' te = some (.tup (rs.map V.int)) → rs.length = c → rs.Pairwise (· ≤ ·) → rimsOk mm rs = true → sumOk nn mm h rs = true → (∀ r ∈ rs, r.natAbs ≤ 1100) → Q (.ref t) H'
theorem ok_law_kind_on (T : Tx mg) (C_law_draw : Cal P w K mg base k "_law_draw" ["bag", "below"] spDraw) (C_law_of : Cal P w K mg base k "_law_of" ["bag", "some"] (spOf K)) (C_law_gcd : Cal P w K mg base k "_law_gcd" ["some"] (spGcd K)) (C_law_divisors : Cal P w K mg base k "_law_divisors" ["top"] spDivsL)
    (C_law_cut : Cal P w K mg base k "_law_cut" ["mm", "worth"] spCut) (C_law_weighed : Cal P w K mg base k "_law_weighed" ["nn", "mm", "step"] spWeighed) (F : Fun K "_law_kind_on" "_law_kind_on" s__law_kind_on f fd) : FnOk P w K mg base CX0 (k + 1) f fd ["bag", "scale", "pairs", "count", "reach"] spKindOn := by
  refine F.ok sc__law_kind_on (fun vs H Q E h => ?_) (fun cdv A outer s H vs Q E hr h => ?_)
  · obtain ⟨_, _, _, _, _, _, _, _, rfl, _⟩ := h
    rfl
  · obtain ⟨b, Ac, sc, nn, mm, h, rch, c, rfl, hb, hsc, hn, hm, hh, hc, hrc, q⟩ := h
    obtain ⟨ob, hbo⟩ := hb.here
    -- a fresh list handed to _law_of
    have ofL : ∀ {H1 : Hp} {L : Addr} {xs : List V} {Q : VK}, BagOk H1 b Ac → H1 L = some (.lst xs) → L ≠ b → (0 < xs.length ∧ xs.length ≤ 1000000) → (∀ x H', x ∈ xs → BagOk H' b Ac → Keeps b H1 H' → Q x H') → spOf K [.ref b, .ref L] H1 Q E0 := fun hb1 hL n hl q' => ⟨b, Ac, _, _, rfl, hb1, sqA_l hL, hl, n, fun H' k' => sqA_l (k' _ _ n hL), q'⟩
    refine ⟨_, PSs.nox (pss_cons (ps_asg (pv 1) (pg_tup (by rfl) (pgs_cons (pg_name (i := 5) sc__law_kind_on.nd rfl (.inr rfl)) (pgs_cons (pg_name (i := 6) sc__law_kind_on.nd rfl (.inr rfl)) pgs_nil))))
    (pss_cons (ps_set (i := 7) sc__law_kind_on.nd rfl (.inl rfl) (pe_u C_law_of hr (pa_cons (pv 0) (pa_cons (pe_u C_law_divisors hr (pa_cons (pe_u C_law_gcd hr (pa_cons (pe_lst (pa_cons (pv 5) (pa_cons (pv 6) pa_nil))) pa_nil)) pa_nil)) pa_nil))))
    (pss_cons (ps_par3 (i := 8) (j := 9) (l := 10) rfl sc__law_kind_on.nd rfl rfl rfl (by decide) (by decide) (by decide) rfl rfl rfl (pa_cons (pe_u C_law_draw hr (pa_cons (pv 0) (pa_cons pe_int pa_nil))) (pa_cons pe_int (pa_cons (pe_lst pa_nil) pa_nil))) (by rfl))
    (pss_cons (ps_cut (ps_if (pt_cmpR op_eq (pv 8) pe_int (nomark _)) (pss_one (ps_set (i := 7) sc__law_kind_on.nd rfl (.inl rfl) pe_int)) pss_nil))
    (pss_cons (ps_cut (ps_if (pt_cmpR op_gt (pv 8) pe_int (nomark _)) (pss_one (ps_par (i := 9) (j := 7) rfl sc__law_kind_on.nd rfl rfl (by decide) rfl rfl (pa_cons (pe_op op_sub pe_int (pv 5)) (pa_cons (pe_u C_law_of hr (pa_cons (pv 0) (pa_cons (pe_lst (pa_cons (pe_op op_add (pv 7) (pv 7)) (pa_cons (pe_op op_add (pv 7) (pv 7)) (pa_cons (pe_op op_add pe_int (pe_u C_law_draw hr (pa_cons (pv 0) (pa_cons pe_int pa_nil)))) (pa_cons pe_int pa_nil))))) pa_nil))) pa_nil)) (by rfl))) pss_nil))
    (pss_cons (ps_for PassesOwn.never rfl (pi_range1 rfl T.b_range (pa_cons (pe_op op_sub (pv 3) pe_int) pa_nil)) (pg_name (i := 11) sc__law_kind_on.nd rfl (.inl rfl))
      (pss_one (ps_expr (pe_bm PySem.F.plainAttrs_list PySem.F.slot_list_append PySem.F.type_list_append mt_append (pv 10) (pa_cons (pe_op op_add (pv 9) (pe_op op_mul (pv 7) (pe_op op_sub (pe_u C_law_draw hr (pa_cons (pv 0) (pa_cons (pe_op op_add (pe_op op_mul pe_int (pv 4)) pe_int) pa_nil))) (pv 4)))) pa_nil)))))
    (pss_cons (ps_expr (pe_bm PySem.F.plainAttrs_list PySem.F.slot_list_append PySem.F.type_list_append mt_append (pv 10) (pa_cons (pe_op op_sub (pe_op op_mul (pv 5) (pe_op op_sub (pe_op op_sub pe_int (pe_op op_mul pe_int (pv 2))) (pv 3))) (pe_callB (cr_sumA rfl) (by rfl) T.b_sum boot_sum (pa_cons (pv 10) pa_nil))) pa_nil)))
    (pss_cons (ps_set (i := 10) sc__law_kind_on.nd rfl (.inl rfl) (pe_callTy call_tuple_A (by rfl) T.b_tuple (by decide +kernel) (pa_cons (pe_callB cr_sortA (by rfl) T.b_sorted (by decide +kernel) (pa_cons (pe_lc (own := [("one", 16)]) (g := gName 16) rfl sc__law_kind_on.nd (pi_seq (pv 10)) (blkOk_by (own := [("one", 16)]) (N := N__law_kind_on) (sc := defScope s__law_kind_on) (by decide +kernel)) (fun _ _ _ _ _ => pg_name (i := 16) sc__law_kind_on.nd rfl (.inl rfl)) (fun _ _ _ _ _ => pts_nil) (fun _ _ _ _ _ => (pe_u C_law_cut hr (pa_cons (pv 6) (pa_cons (pv 16) pa_nil))))) pa_nil)) pa_nil)))
    (pss_cons (ps_if (pt_cmpR op_eq (pv 2) pe_int (nomark _)) (pss_one (ps_ret (pe_tup (pa_cons (pv 5) (pa_cons (pv 6) (pa_cons pe_int (pa_cons (pv 10) (pa_cons pe_non (pa_cons pe_non (pa_cons pe_non pa_nil)))))))))) pss_nil)
    (pss_cons (ps_if (pt_cmpR op_eq (pv 2) pe_int (nomark _)) (pss_cons (ps_set (i := 12) sc__law_kind_on.nd rfl (.inl rfl) (pe_u C_law_gcd hr (pa_cons (pe_op op_cat (pe_lst (pa_cons (pv 6) pa_nil)) (pe_lc (own := [("one", 16)]) (g := gName 16) rfl sc__law_kind_on.nd (pi_seq (pv 10)) (blkOk_by (own := [("one", 16)]) (N := N__law_kind_on) (sc := defScope s__law_kind_on) (by decide +kernel)) (fun _ _ _ _ _ => pg_name (i := 16) sc__law_kind_on.nd rfl (.inl rfl)) (fun _ _ _ _ _ => pts_nil) (fun _ _ _ _ _ => (pe_op op_add (pv 16) (pv 5))))) pa_nil)))
    (pss_one (ps_ret (pe_tup (pa_cons (pv 5) (pa_cons (pv 6) (pa_cons pe_int (pa_cons (pv 10) (pa_cons (pe_ifExp (pt_truth (pv 12) (by intro _; rfl)) (pe_u C_law_of hr (pa_cons (pv 0) (pa_cons (pe_u C_law_divisors hr (pa_cons (pv 12) pa_nil)) pa_nil))) (pe_u C_law_draw hr (pa_cons (pv 0) (pa_cons pe_int pa_nil)))) (pa_cons pe_non (pa_cons pe_non pa_nil))))))))))) pss_nil)
    (pss_cons (ps_asg (pe_tup (pa_cons (pe_u C_law_of hr (pa_cons (pv 0) (pa_cons (pe_u C_law_divisors hr (pa_cons (pe_u C_law_gcd hr (pa_cons (pe_op op_cat (pe_lst (pa_cons (pv 5) (pa_cons (pv 6) pa_nil))) (pe_callTy call_list_of (by rfl) T.b_list (by decide +kernel) (pa_cons (pv 10) pa_nil))) pa_nil)) pa_nil)) pa_nil))) (pa_cons pe_non pa_nil))) (pg_tup (by rfl) (pgs_cons (pg_name (i := 13) sc__law_kind_on.nd rfl (.inr rfl)) (pgs_cons (pg_name (i := 14) sc__law_kind_on.nd rfl (.inl rfl)) pgs_nil))))
    (pss_cons (ps_cut (ps_if (pt_val (pe_u C_law_weighed hr (pa_cons (pv 5) (pa_cons (pv 6) (pa_cons (pv 13) pa_nil))))) (pss_cons (ps_setLc (i := 15) (own := [("one", 16)]) (g := gName 16) rfl sc__law_kind_on.nd rfl rfl (sw_true rfl rfl rfl (by decide +kernel)) (pi_seq (pv 10)) (blkOk_by (own := [("one", 16)]) (N := N__law_kind_on) (sc := defScope s__law_kind_on) (by decide +kernel)) (fun _ _ _ _ _ => pg_name (i := 16) sc__law_kind_on.nd rfl (.inl rfl)) (fun _ _ _ _ _ => (pts_one (pt_cmpR op_eq (pe_op op_modP (pe_callTy call_int1 (by rfl) T.b_int (by decide +kernel) (pa_cons (pe_op op_fdivP (pe_op op_add (pv 16) (pv 5)) (pv 13)) pa_nil)) pe_int) pe_int (nomark _)))) (fun _ _ _ _ _ => (pv 16)))
    (pss_one (ps_set (i := 14) sc__law_kind_on.nd rfl (.inl rfl) (pe_ifExp (pt_truth (pv 15) (by intro _; rfl)) pe_int (pe_u C_law_of hr (pa_cons (pv 0) (pa_cons (pe_lst (pa_cons pe_int (pa_cons (pe_un un_neg pe_int) pa_nil))) pa_nil))))))) pss_nil))
    (pss_one (ps_ret (pe_tup (pa_cons (pv 5) (pa_cons (pv 6) (pa_cons (pv 2) (pa_cons (pv 10) (pa_cons pe_non (pa_cons (pv 13) (pa_cons (pv 14) pa_nil)))))))))))))))))))))), ?_⟩
    refine ⟨_, rfl, sc, _, rfl, SqT.of hsc, rfl, ?_⟩
    refine ⟨_, _, rfl, _, _, rfl, rfl, ?_⟩
    refine ⟨_, rfl, _, rfl, _, rfl, (by show 2 ≤ sizeLine; decide), fun L1 hL1 => ?_⟩
    refine ⟨L1, [nn, mm], rfl, sqA_l upd_same, fun H1 e1 => ?_⟩
    have e1' := (Same.new (o := HO.lst [V.int nn, V.int mm]) hL1).trans e1
    have g0 := gN_le (zs := [nn, mm]) (List.mem_cons_self ..) (by omega)
    refine ⟨_, rfl, by omega, fun L2 hL2 => ?_⟩
    have e2' := e1'.trans (Same.new (o := HO.lst ((dv (gN [nn, mm]) (gN [nn, mm])).map vN)) hL2)
    have nL2 : L2 ≠ b := (ne_of_none (e1' _ _ hbo) hL2).symm
    refine ofL (hb.same e2') upd_same nL2 ⟨by rw [List.length_map]; exact dv_pos g0.1, by rw [List.length_map]; exact Nat.le_trans (dv_len _ _) (by omega)⟩ fun x H2 hx hb2 k2 => ?_
    obtain ⟨st, hst, rfl⟩ := List.mem_map.mp hx
    have hst2 := dvd_dv hst
    have st12 : 1 ≤ st ∧ st ≤ 12 := by omega
    have k02 := (Same.keeps e2').trans k2 (x := b)
    clear hx hst hst2 hL2 nL2 e2' e1' hL1
    refine ⟨_, rfl, b, Ac, 4, rfl, hb2, ⟨by decide, by decide⟩, fun sty H3 s0 s1 hb3 k3 => ?_⟩
    refine ⟨(by show 0 ≤ sizeLine; decide), fun Le hLe => ⟨_, _, _, rfl, ?_⟩⟩
    obtain ⟨ob3, hbo3⟩ := hb3.here
    have nLe : Le ≠ b := (ne_of_none hbo3 hLe).symm
    have k03 := k02.trans k3
    have nLe0 : H Le = none := keeps_nn k03 nLe hLe
    have hLe4 : upd H3 Le (.lst []) Le = some (.lst (([] : List Int).map V.int)) := upd_same
    have k04 : Keeps b H (upd H3 Le (.lst [])) := k03.trans (Same.keeps (Same.new hLe))
    have hb4 := hb3.same (Same.new (o := HO.lst []) hLe)
    revert hLe4 k04 hb4
    generalize upd H3 Le (.lst []) = H4
    intro hLe4 k04 hb4
    clear hb3 k3 hLe hbo3 hb2 k2 k02 k03
    -- style
    refine ⟨fun σ H' => H' = H4 ∧ ∃ st : Nat, (1 ≤ st ∧ st ≤ 12) ∧ σ = [some (.ref b), some (.ref sc), some (.int h), some (.int c), some (.int rch), some (.int nn), some (.int mm), some (.int (st : Int)), some (.int sty), some (.int 0), some (.ref Le), none, none, none, none, none, none], ?_, ?_⟩
    · refine ⟨_, rfl, rfl, _, rfl, ?_⟩
      refine ite2 (fun _ => ?_) (fun _ => ?_)
      · exact ⟨rfl, 1, by decide, rfl⟩
      · exact ⟨rfl, st, st12, rfl⟩
    clear st12 st
    rintro σ1 H4' ⟨rfl, st, st12, rfl⟩
    refine ⟨fun σ H' => BagOk H' b Ac ∧ Keeps b H H' ∧ H' Le = some (.lst (([] : List Int).map V.int)) ∧ ∃ bs st : Int, bs.natAbs ≤ 12 ∧ st.natAbs ≤ 24 ∧ σ = [some (.ref b), some (.ref sc), some (.int h), some (.int c), some (.int rch), some (.int nn), some (.int mm), some (.int st), some (.int sty), some (.int bs), some (.ref Le), none, none, none, none, none, none], ?_, ?_⟩
    · refine ⟨_, rfl, _, _, rfl, rfl, _, rfl, ?_⟩
      refine ite2 (fun _ => ?_) (fun _ => ?_)
      · refine ⟨_, rfl, _, _, rfl, rfl, _, rfl, _, rfl, _, rfl, _, _, rfl, rfl, _, rfl, _, rfl, _, _, rfl, rfl, ?_⟩
        refine ⟨_, rfl, b, Ac, 8, rfl, hb4, ⟨by decide, by decide⟩, fun d8 H5 d0 d1 hb5 k5 => ⟨_, _, rfl, rfl, (by show 4 ≤ sizeLine; decide), fun L5 hL5 => ?_⟩⟩
        obtain ⟨ob5, hbo5⟩ := hb5.here
        have nL5 : L5 ≠ b := (ne_of_none hbo5 hL5).symm
        refine ofL (hb5.same (Same.new hL5)) upd_same nL5 ⟨by show 0 < 4; decide, by show 4 ≤ 1000000; decide⟩ fun x H6 hx hb6 k6 => ?_
        have hLe6 := k6 _ _ nLe (Same.new (o := HO.lst [V.int ((st : Int) + st), V.int ((st : Int) + st), V.int (2 + d8), V.int 0]) hL5 _ _ (k5 _ _ nLe hLe4))
        have k06 := ((k04.trans k5).trans (Same.keeps (Same.new (o := HO.lst [V.int ((st : Int) + st), V.int ((st : Int) + st), V.int (2 + d8), V.int 0]) hL5))).trans k6
        have hx' : ∃ z : Int, x = V.int z ∧ z.natAbs ≤ 24 := by
          rcases List.mem_cons.mp hx with rfl | hx
          · exact ⟨_, rfl, by omega⟩
          rcases List.mem_cons.mp hx with rfl | hx
          · exact ⟨_, rfl, by omega⟩
          rcases List.mem_cons.mp hx with rfl | hx
          · exact ⟨_, rfl, by omega⟩
          · obtain rfl := List.mem_singleton.mp hx
            exact ⟨0, rfl, by decide⟩
        obtain ⟨z, rfl, hz⟩ := hx'
        exact ⟨_, _, rfl, hb6, k06, hLe6, 0 - nn, z, by omega, hz, rfl⟩
      · exact ⟨hb4, k04, hLe4, 0, st, by decide, by omega, rfl⟩
    clear hLe4 k04 hb4 st12 st
    rintro σ2 H5 ⟨hb5, k05, hLe5, bs, st, hbs, hst, rfl⟩
    -- the loop
    dsimp only [tNext, tSeq, gName, tAsg, tRet]
    refine ⟨_, rfl, _, _, rfl, rfl, (c : Int) - 1, rfl, by omega, by omega, ?_⟩
    rw [show ((c : Int) - 1).toNat = c - 1 by omega]
    refine for_range (lo := 0) (n := c - 1) (fun i σ H' => BagOk H' b Ac ∧ Keeps b H H' ∧ ∃ (es : List Int) (s11 : Option V), H' Le = some (.lst (es.map V.int)) ∧ es.length = i ∧ (∀ e ∈ es, e.natAbs ≤ 228) ∧ σ = [some (.ref b), some (.ref sc), some (.int h), some (.int c), some (.int rch), some (.int nn), some (.int mm), some (.int st), some (.int sty), some (.int bs), some (.ref Le), s11, none, none, none, none, none]) ⟨hb5, k05, [], none, hLe5, rfl, (fun e (he : e ∈ []) => by cases he), rfl⟩ (fun i σ H6 hi pv => ?_) fun σ H6 pv => ?_
    · obtain ⟨hb6, k06, es, s11, hLe6, el, eb, rfl⟩ := pv
      refine ⟨_, rfl, .inl ⟨rfl, _, SqL.of hLe6⟩, ?_⟩
      refine ⟨_, rfl, _, rfl, _, rfl, _, rfl, _, _, rfl, rfl, .inl ⟨by decide, by decide⟩, _, _, rfl, rfl, b, Ac, 2 * rch + 1, rfl, hb6, ⟨by omega, by omega⟩, fun d H7 d0 d1 hb7 k7 => ?_⟩
      refine ⟨_, rfl, _, _, rfl, rfl, _, _, rfl, rfl, .inl ⟨by omega, by omega⟩, _, _, rfl, rfl, ?_⟩
      have hLe7 := k7 _ _ nLe hLe6
      refine ⟨Le, _, _, rfl, rfl, hLe7, ?_, ?_⟩
      · rw [List.length_map]
        exact small1000 (by omega)
      obtain ⟨ib, cb, blb, nb, cells, g1, g2, g3, g4⟩ := hb7.ex
      have nAL : Ac ≠ Le := by
        obtain ⟨_, _, _, _, _, _, _, g3', _⟩ := hb.ex
        exact ne_of_none g3' nLe0
      refine ⟨⟨ib, cb, blb, nb, cells, by rw [upd_ne nLe.symm]; exact g1, g2, by rw [upd_ne nAL]; exact g3, g4⟩, fun a o n e => ?_, es ++ [bs + st * (d - rch)], _, ?_, ?_, fun e he => ?_, rfl⟩
      · rw [upd_ne (ne_of_none e nLe0)]
        exact k7 _ _ n (k06 _ _ n e)
      · rw [upd_same, List.map_append]
        rfl
      · rw [List.length_append, el]
        rfl
      · rcases List.mem_append.mp he with he | he
        · exact eb e he
        · obtain rfl := List.mem_singleton.mp he
          have := mul_bound (a := st) (b := d - rch) (m := 24) (n := 9) hst (by omega)
          have := Int.natAbs_add_le bs (st * (d - rch))
          omega
    obtain ⟨hb6, k06, es, s11, hLe6, el, eb, rfl⟩ := pv
    -- the last rim
    have sb := sum_bound es eb
    have sb2 : es.sum.natAbs ≤ 912 := Nat.le_trans sb (by omega)
    have nb := mul_bound (a := nn) (b := 2 - 2 * h - (c : Int)) (m := 12) (n := 13) (by omega) (by omega)
    refine ⟨_, rfl, .inl ⟨rfl, _, SqL.of hLe6⟩, ?_⟩
    refine ⟨_, rfl, _, rfl, _, _, rfl, rfl, .inl ⟨by decide, by decide⟩, _, _, rfl, rfl, _, rfl, _, _, rfl, rfl, _, _, rfl, rfl, .inl ⟨by omega, by omega⟩, _, rfl, Le, es, rfl, sqA_l hLe6, _, _, rfl, rfl, Le, _, _, rfl, rfl, hLe6, ?_, ?_⟩
    · rw [List.length_map]
      exact small1000 (by omega)
    have nAL : Ac ≠ Le := by
      obtain ⟨_, _, _, _, _, _, _, g3', _⟩ := hb.ex
      exact ne_of_none g3' nLe0
    have kL : Keeps Le H6 (upd H6 Le (.lst (es.map V.int ++ [V.int (nn * (2 - 2 * h - (c : Int)) - es.sum)]))) := Keeps.upd
    have hLe7 : upd H6 Le (.lst (es.map V.int ++ [V.int (nn * (2 - 2 * h - (c : Int)) - es.sum)])) Le = some (.lst ((es ++ [nn * (2 - 2 * h - (c : Int)) - es.sum]).map V.int)) := by
      rw [upd_same, List.map_append]
      rfl
    have hb7 : BagOk (upd H6 Le (.lst (es.map V.int ++ [V.int (nn * (2 - 2 * h - (c : Int)) - es.sum)]))) b Ac := by
      obtain ⟨ib, cb, blb, nb, cells, g1, g2, g3, g4⟩ := hb6.ex
      exact ⟨ib, cb, blb, nb, cells, kL _ _ nLe.symm g1, g2, kL _ _ nAL g3, g4⟩
    have k07 : Keeps b H (upd H6 Le (.lst (es.map V.int ++ [V.int (nn * (2 - 2 * h - (c : Int)) - es.sum)]))) := fun a o n e => kL _ _ (ne_of_none e nLe0) (k06 _ _ n e)
    revert hLe7 hb7 k07
    generalize upd H6 Le (.lst (es.map V.int ++ [V.int (nn * (2 - 2 * h - (c : Int)) - es.sum)])) = H7
    intro hLe7 hb7 k07
    clear kL hLe6
    let fs := es ++ [nn * (2 - 2 * h - (c : Int)) - es.sum]
    have fl : fs.length = c := by
      show (es ++ [_]).length = c
      rw [List.length_append, el]
      show c - 1 + 1 = c
      omega
    have fsum : fs.sum = dueSum nn h fs.length := by
      rw [fl]
      show (es ++ [_]).sum = _
      rw [List.sum_append]
      unfold dueSum
      simp
      omega
    have fb : ∀ e ∈ fs, e.natAbs ≤ 1100 := fun e he => by
      rcases List.mem_append.mp he with he | he
      · have := eb e he
        omega
      · obtain rfl := List.mem_singleton.mp he
        omega
    have m0 : 0 ≤ mm := by omega
    dsimp only [tNext, tSeq, gName, tAsg, tRet, tCB, tCons, tNil]
    refine tlc_pure (K := K) (a := Le) (xs := fs.map V.int) (onI fun r => .int (red' mm r)) (fun R r => ⟨_, rfl, r⟩) (sqA_l hLe7) (len1000 (by omega)) (fun _ => rfl) (fun x hx H' e Q' q' => ?_) fun D hD => ?_
    · obtain ⟨r, _, rfl⟩ := List.mem_map.mp hx
      exact ⟨_, rfl, _, rfl, mm, r, rfl, m0, q'⟩
    rw [onI_map]
    refine ⟨D, fs.map (red' mm), rfl, sqA_l (by rw [upd_same, List.map_map]; rfl), fun rs Ls hp1 hp2 hLs => ?_⟩
    have rl : rs.length = c := by rw [hp1.length_eq, List.length_map, fl]
    have e79 := (Same.new (o := HO.lst (fs.map fun r => V.int (red' mm r))) hD).trans (Same.new (o := HO.lst (rs.map V.int)) hLs)
    refine ⟨Ls, _, rfl, .inl upd_same, fun te H8 e8 hte => ?_⟩
    have e78 := e79.trans e8
    have hb8 := hb7.same e78
    have k08 := k07.trans (Same.keeps e78)
    have rne : rs ≠ [] := by
      intro e
      rw [e] at rl
      simp at rl
      omega
    have rr : mm = 0 ∨ ∀ r ∈ rs, 0 ≤ r ∧ r < mm := by
      by_cases e : mm = 0
      · exact .inl e
      · refine .inr fun r hr => ?_
        obtain ⟨r0, _, rfl⟩ := List.mem_map.mp (hp1.mem_iff.mp hr)
        exact red_range (by omega)
    have rb : ∀ r ∈ rs, r.natAbs ≤ 1100 := fun r hr => by
      obtain ⟨r0, h0, rfl⟩ := List.mem_map.mp (hp1.mem_iff.mp hr)
      have := fb r0 h0
      by_cases e : mm = 0
      · unfold red'
        rw [if_pos e]
        exact this
      · have := red_range (mm := mm) (r := r0) (by omega)
        omega
    have hri := rimsOk_of rne hp2 rr
    have hsu := sumOk_of hp1 fsum
    have fin : ∀ t H' u v x, BagOk H' b Ac → Keeps b H8 H' → H' t = some (.tup [.int nn, .int mm, .int h, .ref te, u, v, x]) → Q (.ref t) H' := fun t H' u v x b' k' ht => q t te H' rs u v x b' (k08.trans k') ht (k' _ _ (fun z => by
      obtain ⟨o, ho⟩ := hb8.here
      obtain ⟨_, _, _, _, _, g1, _⟩ := hb8.ex
      rw [z, g1] at hte
      cases hte) hte) rl hp2 hri hsu rb
    clear hD hLs e8 e79 e78 hb7 k07 hLe7
    refine ⟨_, rfl, rfl, _, rfl, ?_⟩
    rw [decI]
    by_cases h0 : h = 0
    · subst h0
      refine iteT ?_
      exact ⟨_, rfl, _, rfl, _, rfl, (by show 7 ≤ sizeLine; decide), fun t ht => fin t _ _ _ _ (hb8.same (Same.new ht)) (Same.keeps (Same.new ht)) upd_same⟩
    rw [decide_eq_false h0]
    refine iteF ?_
    refine ⟨_, rfl, rfl, _, rfl, ?_⟩
    rw [decI]
    by_cases h1 : h = 1
    · subst h1
      refine iteT ?_
      refine ⟨_, rfl, (by show 1 ≤ sizeLine; decide), fun M1 hM1 => ?_⟩
      refine tlc_pure (K := K) (a := te) (xs := rs.map V.int) (onI fun r => .int (r + nn)) (fun R r => ⟨_, rfl, r⟩) (sqA_t (Same.new hM1 _ _ hte)) (len1000 (by omega)) (fun _ => rfl) (fun x hx H' e Q' q' => ?_) fun D2 hD2 => ?_
      · obtain ⟨r, _, rfl⟩ := List.mem_map.mp hx
        exact ⟨_, rfl, _, rfl, _, _, rfl, rfl, q'⟩
      rw [onI_map]
      refine ⟨M1, D2, _, _, rfl, rfl, Same.new hD2 _ _ upd_same, upd_same, ?_, fun S hS => ?_⟩
      · rw [List.length_map]
        exact Nat.le_trans (show _ ≤ 1000 by simp; omega) (by decide)
      refine ⟨S, mm :: rs.map (· + nn), rfl, sqA_l (by rw [upd_same]; simp), fun H9 e9 => ?_⟩
      have e89 := (Same.new (o := HO.lst [V.int mm]) hM1).trans ((Same.new (o := HO.lst (rs.map fun r => V.int (r + nn))) hD2).trans ((Same.new hS).trans e9))
      have hb9 := hb8.same e89
      clear hM1 hD2 hS e9
      have gb : gN (mm :: rs.map (· + nn)) ≤ 100000 := by
        by_cases hg : gN (mm :: rs.map (· + nn)) = 0
        · omega
        · have : ∃ z, z ∈ (mm :: rs.map (· + nn)) ∧ z ≠ 0 := by
            by_cases q2 : ∃ z, z ∈ (mm :: rs.map (· + nn)) ∧ z ≠ 0
            · exact q2
            · exfalso
              refine hg (Nat.eq_zero_of_zero_dvd ((dvd_gN 0 _).mpr fun z hz => ?_))
              have : z = 0 := by
                by_cases q3 : z = 0
                · exact q3
                · exact absurd ⟨z, hz, q3⟩ q2
              rw [this]
              exact Nat.dvd_refl 0
          obtain ⟨z, hz, hz0⟩ := this
          have hle := (gN_le hz hz0).2
          rcases List.mem_cons.mp hz with rfl | hz
          · omega
          · obtain ⟨r, hr, rfl⟩ := List.mem_map.mp hz
            have := rb r hr
            omega
      refine ⟨_, rfl, _, rfl, _, rfl, _, rfl, _, rfl, ?_⟩
      by_cases t0 : gN (mm :: rs.map (· + nn)) = 0
      · rw [t0]
        refine iteF ?_
        exact ⟨_, rfl, b, Ac, 21, rfl, hb9, ⟨by decide, by decide⟩, fun d H10 d0 d1 hb10 k10 => ⟨(by show 7 ≤ sizeLine; decide), fun t ht => fin t _ _ _ _ (hb10.same (Same.new ht)) (((Same.keeps e89).trans k10).trans (Same.keeps (Same.new ht))) upd_same⟩⟩
      · rw [show (((gN (mm :: rs.map (· + nn)) : Nat) : Int) != 0) = true by simpa using t0]
        refine iteT ?_
        refine ⟨_, rfl, _, rfl, _, rfl, by omega, fun L9 hL9 => ?_⟩
        obtain ⟨o9, ho9⟩ := hb9.here
        have nL9 : L9 ≠ b := (ne_of_none ho9 hL9).symm
        refine ofL (hb9.same (Same.new hL9)) upd_same nL9 ⟨by rw [List.length_map]; exact dv_pos (by omega), by rw [List.length_map]; exact Nat.le_trans (dv_len _ _) (by omega)⟩ fun x H10 hx hb10 k10 => ?_
        exact ⟨(by show 7 ≤ sizeLine; decide), fun t ht => fin t _ _ _ _ (hb10.same (Same.new ht)) ((((Same.keeps e89).trans (Same.keeps (Same.new hL9))).trans k10).trans (Same.keeps (Same.new ht))) upd_same⟩
    rw [decide_eq_false h1]
    refine iteF ?_
    refine ⟨_, rfl, _, rfl, _, rfl, (by show 2 ≤ sizeLine; decide), fun M1 hM1 => ?_⟩
    refine ⟨_, rfl, te, _, rfl, .inr (SqT.of (Same.new hM1 _ _ hte)), fun M2 hM2 => ?_⟩
    refine ⟨M1, M2, _, _, rfl, rfl, Same.new hM2 _ _ upd_same, upd_same, ?_, fun M3 hM3 => ?_⟩
    · rw [List.length_map]
      exact Nat.le_trans (show _ ≤ 1000 by simp; omega) (by decide)
    refine ⟨M3, nn :: mm :: rs, rfl, sqA_l (by rw [upd_same]; rfl), fun H9 e9 => ?_⟩
    have e89 := (Same.new (o := HO.lst [V.int nn, V.int mm]) hM1).trans ((Same.new (o := HO.lst (rs.map V.int)) hM2).trans ((Same.new hM3).trans e9))
    have hb9 := hb8.same e89
    have hte9 := e89 _ _ hte
    clear hM1 hM2 hM3 e9
    have g2 := gN_le (zs := nn :: mm :: rs) (List.mem_cons_self ..) (by omega)
    refine ⟨_, rfl, by omega, fun L9 hL9 => ?_⟩
    obtain ⟨o9, ho9⟩ := hb9.here
    have nL9 : L9 ≠ b := (ne_of_none ho9 hL9).symm
    refine ofL (hb9.same (Same.new hL9)) upd_same nL9 ⟨by rw [List.length_map]; exact dv_pos g2.1, by rw [List.length_map]; exact Nat.le_trans (dv_len _ _) (by omega)⟩ fun x H10 hx hb10 k10 => ?_
    obtain ⟨pt, hpt, rfl⟩ := List.mem_map.mp hx
    have hpt2 := dvd_dv hpt
    have k810 := ((Same.keeps e89).trans (Same.keeps (Same.new (o := HO.lst ((dv (gN (nn :: mm :: rs)) (gN (nn :: mm :: rs))).map vN)) hL9))).trans k10 (x := b)
    have nteb : te ≠ b := fun z => by
      obtain ⟨_, _, _, _, _, g1, _⟩ := hb8.ex
      rw [z, g1] at hte
      cases hte
    have hte10 := k810 _ _ nteb hte
    refine ⟨(by show 2 ≤ sizeLine; decide), fun tp htp => ⟨tp, _, rfl, SqT.of upd_same, rfl, _, _, rfl, _, _, rfl, rfl, ?_⟩⟩
    refine ⟨fun σ H' => BagOk H' b Ac ∧ Keeps b H8 H' ∧ ∃ sg s15, σ = [some (.ref b), some (.ref sc), some (.int h), some (.int c), some (.int rch), some (.int nn), some (.int mm), some (.int st), some (.int sty), some (.int bs), some (.ref te), s11, none, some (vN pt), some sg, s15, none], ?_, ?_⟩
    · refine ⟨_, rfl, _, rfl, _, rfl, nn, mm, (pt : Int), rfl, ⟨by omega, by omega⟩, _, rfl, ?_⟩
      have hb11 := hb10.same (Same.new (o := HO.tup [vN pt, V.non]) htp)
      have k811 := k810.trans (Same.keeps (Same.new (o := HO.tup [vN pt, V.non]) htp))
      refine ite2 (fun _ => ?_) (fun _ => ?_)
      · dsimp only [tNext, tSeq, gName, tAsg, tRet]
        refine tlc_filt (K := K) (xs := rs.map V.int) (onB fun r => decide ((r + nn) / (pt : Int) % 2 = 1)) (fun R r => ⟨_, rfl, r te _ (Same.refl _) (sqA_t (Same.new htp _ _ hte10))⟩) (len1000 (by omega)) (fun _ => rfl) (fun x hx H1 e1 Q' q' => ?_) (fun x hx H1 Q' q' => ⟨_, rfl, q'⟩) fun D3 H12 e12 hD3 h12 => ?_
        · obtain ⟨z, _, rfl⟩ := List.mem_map.mp hx
          refine ⟨_, rfl, _, rfl, _, _, rfl, rfl, _, rfl, _, _, rfl, rfl, ⟨(show (0 : Int) < (pt : Int) by omega), by omega⟩, .inl ⟨_, rfl, _, _, rfl, rfl, (by show (0 : Int) < 2; decide), rfl, _, rfl, ?_⟩⟩
          rw [decI]
          exact q' _ (Same.refl _)
        · refine ⟨_, rfl, _, .inl ⟨_, SqL.of h12, rfl⟩, ?_⟩
          refine ite2 (fun _ => ?_) (fun _ => ?_)
          · exact ⟨hb11.same e12, k811.trans (Same.keeps e12), _, _, rfl⟩
          · refine ⟨_, rfl, 1, rfl, (by show 2 ≤ sizeLine; decide), fun Z hZ => ?_⟩
            obtain ⟨o12, ho12⟩ := (hb11.same e12).here
            refine ofL ((hb11.same e12).same (Same.new hZ)) upd_same (ne_of_none ho12 hZ).symm ⟨by show 0 < 2; decide, by show 2 ≤ 1000000; decide⟩ fun x H13 hx hb13 k13 => ?_
            exact ⟨hb13, ((k811.trans (Same.keeps e12)).trans (Same.keeps (Same.new hZ))).trans k13, _, _, rfl⟩
      · exact ⟨hb11, k811, _, _, rfl⟩
    rintro σ3 H11 ⟨hb11, k11, sg, s15, rfl⟩
    exact ⟨_, rfl, _, rfl, _, rfl, _, rfl, _, rfl, _, rfl, (by show 7 ≤ sizeLine; decide), fun t ht => fin t _ _ _ _ (hb11.same (Same.new ht)) (k11.trans (Same.keeps (Same.new ht))) upd_same⟩
end
end C53
set_option Elab.async false
set_option linter.all false
set_option maxRecDepth 100000
set_option maxHeartbeats 2000000
namespace C53
open PySem PySem.Spec PyProof.Rows Ex
open L2 hiding GC GEnds GFn GI GK GMade GR GS GSP GSs GY PGen SpG TGen TGn gc_loop gfn_of gs_ps gs_while gs_yield gss_cons gss_nil gss_pss pgen_call sp_gsp tCallG tG0 tGThen tGWhile tGYield tPlain
open GF
abbrev s__law_yielded : Stmt := topS 69
abbrev N__law_yielded : List Str := ["ground", "grips", "edge", "cut", "way", "found", "one"]
theorem sc__law_yielded : FnScope N__law_yielded ["ground", "grips", "edge", "cut", "way"] (defScope s__law_yielded) := ⟨rfl, rfl, rfl, by decide +kernel, rfl, by decide +kernel, by decide +kernel⟩
abbrev psGen : List Str := ["book", "handles", "rims", "most"]
abbrev FunGen (K : PySem.W.Frag) (f : Addr) (fd : FuncData) : Prop := FunD K "kinds_of" "kinds_of" (defArgs s_kinds_of) (defBody s_kinds_of) (defScope s_kinds_of) [] [("most", .non)] f fd
def g4 {α : Type} (ws : List α) : List α := match ws with | [m, r, b, h] => [b, h, r, m] | _ => ws
/-- the generator def, by its calls -/
structure GMk (P : Program) (w : World) (K : PySem.W.Frag) (mg : Str → Option Value) (base : Heap) (k : Nat) (CB CK : Addr) : Prop where
  ex : ∃ f fd, mg "kinds_of" = some (.ref f) ∧ PySem.W.keepIn K (.ref f) = true ∧ GF.GFn P w K mg base k f fd psGen (spKinds K CB CK) ∧ (∃ ds, Vals [V.non] ds ∧ Binds K fd psGen ds) ∧
    (KBn K fd psGen 3 ["most"] (fun us ws => us ++ ws) (fun vs zs => vs ++ zs)) ∧ (KBn K fd psGen 0 ["most", "rims", "book", "handles"] (fun _ ws => g4 ws) (fun _ zs => g4 zs))
section
variable {K : PySem.W.Frag} {f : Addr} {fd : FuncData}
theorem gen_b0 (F : FunGen K f fd) : ∃ ds, Vals [V.non] ds ∧ Binds K fd psGen ds := by
  refine F.binds0 (ps := psGen) 3 (by decide) rfl fun D doc pm an cdv ct us ks hl hk => ?_
  match us, ks, hl, hk with
  | [u1, u2, u3], [k1], _, _ => exact ⟨_, _, _, _, _, _, rfl, rfl, rfl⟩
theorem gen_b1 (F : FunGen K f fd) : KBn K fd psGen 3 ["most"] (fun us ws => us ++ ws) (fun vs zs => vs ++ zs) := by
  obtain ⟨mv, h⟩ := F.kbinds0 (ps := psGen) 3 ["most"] [] (fun us mv ws => us ++ ws) (by decide) (fun q hq => by cases hq) (fun a b c => a.append c) fun D doc pm an cdv ct us mv ws hl hm hw => (by
    match us, mv, ws, hl, hm, hw with
    | [u1, u2, u3], [], [w1], _, _, _ => exact rfl)
  exact h
theorem g4_rel {zs : List V} {ws : List Value} (h : Vals zs ws) : Vals (g4 zs) (g4 ws) := by
  unfold g4
  match zs, ws, h with
  | [], [], h => exact h
  | [_], [_], h => exact h
  | [_, _], [_, _], h => exact h
  | [_, _, _], [_, _, _], h => exact h
  | [_, _, _, _], [_, _, _, _], .cons a (.cons b (.cons c (.cons d .nil))) => exact .cons c (.cons d (.cons b (.cons a .nil)))
  | _ :: _ :: _ :: _ :: _ :: _, _ :: _ :: _ :: _ :: _ :: _, h => exact h
theorem gen_b2 (F : FunGen K f fd) : KBn K fd psGen 0 ["most", "rims", "book", "handles"] (fun _ ws => g4 ws) (fun _ zs => g4 zs) := by
  obtain ⟨mv, h⟩ := F.kbinds0 (ps := psGen) 0 ["most", "rims", "book", "handles"] [] (fun us mv ws => g4 ws) (by decide) (fun q hq => by cases hq) (fun a b c => g4_rel c) fun D doc pm an cdv ct us mv ws hl hm hw => (by
    match us, mv, ws, hl, hm, hw with
    | [], [], [w1, w2, w3, w4], _, _, _ => exact rfl)
  exact h
end
section
variable {X : Cx} {k : Nat} {CB CK : Addr} {p pos : Pos} {e : Expr} {es : List Expr} {kws : List Keyword} {t tk : TA}
theorem pg_0 (C : GMk X.prog X.w X.K X.mg X.base k CB CK) (hr : Room k X.A) (ha : PA X (e :: es) t) (hg : Gl X "kinds_of" := by rfl)
    (he : starEach (e :: es) X.env = (false, eval e X.env) :: starEach es X.env := by rfl) (hpl : (backTo pos (starEach es X.env)).any (·.1) = false := by rfl) : GF.PGen X k (.Call (.Name "kinds_of" p) (e :: es) [] pos) (GF.tCallG 4 (spKinds X.K CB CK) [V.non] t) := by
  obtain ⟨f, fd, hm, kp, F, ⟨ds, hd, hb⟩, _⟩ := C.ex
  exact GF.pgen_call F hr hg hm kp hb hd ha (by decide) he hpl
theorem pg_1 (C : GMk X.prog X.w X.K X.mg X.base k CB CK) (hr : Room k X.A) (ha : PA X (e :: es) t) (hkw : PK X kws tk) (hg : Gl X "kinds_of" := by rfl)
    (hall : (backToKw pos (keywordEach kws X.env)).all (·.1.isSome) = true := by rfl) (hks : (backToKw pos (keywordEach kws X.env)).filterMap (·.1) = (["most"] : List Str) := by rfl)
    (he : starEach (e :: es) X.env = (false, eval e X.env) :: starEach es X.env := by rfl) (hpl : ((backTo pos (starEach (e :: es) X.env)).any (·.1) || (backToKw pos (keywordEach kws X.env)).any (·.1.isNone)) = false := by rfl) :
    GF.PGen X k (.Call (.Name "kinds_of" p) (e :: es) kws pos) (GF.tCallGN 3 1 4 (spKinds X.K CB CK) (fun vs zs => vs ++ zs) t tk) := by
  obtain ⟨f, fd, hm, kp, F, _, hb, _⟩ := C.ex
  exact GF.pgen_callN F hr hg hm kp hb ha hkw hall hks (by decide) he hpl
theorem pg_2 (C : GMk X.prog X.w X.K X.mg X.base k CB CK) (hr : Room k X.A) (hkw : PK X kws tk) (hg : Gl X "kinds_of" := by rfl)
    (hall : (backToKw pos (keywordEach kws X.env)).all (·.1.isSome) = true := by rfl) (hks : (backToKw pos (keywordEach kws X.env)).filterMap (·.1) = (["most", "rims", "book", "handles"] : List Str) := by rfl)
    (hpl : ((backTo pos (starEach [] X.env)).any (·.1) || (backToKw pos (keywordEach kws X.env)).any (·.1.isNone)) = false := by rfl) :
    GF.PGen X k (.Call (.Name "kinds_of" p) [] kws pos) (GF.tCallGN 0 4 4 (spKinds X.K CB CK) (fun _ zs => g4 zs) tNil tk) := by
  obtain ⟨f, fd, hm, kp, F, _, _, hb⟩ := C.ex
  exact GF.pgen_callN0 F hr hg hm kp hb hkw hall hks (by decide) hpl
end
/-- what the generator is asked of -/
structure YIn (nn mm h : Int) (rs0 rs : List Int) : Prop where
  l : rs0.length ≤ 900
  n : -1000 < nn ∧ nn < 1000
  m : 0 ≤ mm
  h0 : 0 ≤ h
  p : rs.Perm (rs0.map (red' mm))
  s : rs.Pairwise (· ≤ ·)
  r : rimsOk mm rs = true
  e1 : endl nn mm h rs = true → sumOk nn mm h rs = true
  e2 : endl nn mm h rs = false → h = 1 → sumOk nn mm h rs = true → 0 < gN (mm :: rs.map (· + nn)) ∧ gN (mm :: rs.map (· + nn)) ≤ 1000000
  g : 0 < gN (nn :: mm :: rs) ∧ gN (nn :: mm :: rs) ≤ 1000000
/-- for one in kinds_of(..): found.append(one); if ..: break -/
theorem rd_forG {K : PySem.W.Frag} {CB CK : Addr} {H0 H : Hp} {p a Fo : Addr} {nn mm h : Int} {rs0 rs : List Int} {mst : Option Nat} {T : List Kd} {stop : Nat → Bool} {σ0 : Option V → L2.St} {tg : GF.TGen} {tt : TT} {D : Ends}
    (yi : YIn nn mm h rs0 rs) (hb : IsBook CB H p nn mm) (hS : SqA K H a (rs0.map V.int)) (nF : H0 Fo = none) (e0 : Keeps Fo H0 H) (hF : H Fo = some (.lst []))
    (hset : ∀ s x, (σ0 s).set 6 x = σ0 x) (h6 : ∀ x, (σ0 x)[6]? = some x) (h5 : ∀ x, (σ0 x)[5]? = some (some (.ref Fo)))
    (htg : ∀ cont : (Hp → GF.GCn → (List V → Hp → Hp → Prop) → Prop) → Hp → Prop, (∀ a' H1, Same H H1 → SqA K H1 a' (rs0.map V.int) → cont (spKinds K CB CK [.ref p, .int h, .ref a', optV (oN mst)]) H1) → tg (σ0 none) H cont)
    (htt : ∀ s H' (xs : List V), H' Fo = some (.lst xs) → ∀ Q : Bool → Hp → Prop, Q (stop xs.length) H' → tt (σ0 s) H' Q)
    (hT : ∀ i, i < T.length → sq nn mm h rs mst i = T[i]?) (hTl : T.length ≤ 4000) (hst : ∀ n, 1 ≤ n → n ≤ T.length → stop n = true → n = T.length) (hend : sq nn mm h rs mst T.length = none ∨ (1 ≤ T.length ∧ stop T.length = true))
    (hfin : ∀ s H' xs, Same H0 H' → H' Fo = some (.lst (xs.map V.ref)) → AllK CB CK K H' nn mm xs T → D.nx (σ0 s) H') :
    GF.tForG tg (gName 6) (tSeq (tDrop (fun σ H Q => tVar 5 σ H fun x H1 => (∃ l xs, x = V.ref l ∧ H1 l = some (.lst xs)) ∧ tVar 6 σ H1 fun y H2 => rAppend x [y] H2 Q)) (tSeq (tIfS tt (tSeq tBreak tNext) tNext) tNext)) D (σ0 none) H := by
  refine htg _ fun a' H1 e1 hS1 => ?_
  have k01 := e0.trans (Same.keeps e1)
  refine ⟨fun ys σ Hw => ∃ xs s, ys = xs.map V.ref ∧ xs.length ≤ T.length ∧ (xs.length = 0 ∨ stop xs.length = false) ∧ σ = σ0 s ∧ Hw Fo = some (.lst (xs.map V.ref)) ∧ Keeps Fo H0 Hw ∧ AllK CB CK K Hw nn mm xs (T.take xs.length),
    fun ys Hw x H => ∃ y kd, x = .ref y ∧ sq nn mm h rs mst ys.length = some kd ∧ Same Hw H ∧ IsKind CB CK K H y nn mm kd,
    fun ys x H1 H2 => ys.length < 5000 ∧ Keeps Fo H1 H2 ∧ ∃ zs, H2 Fo = some (.lst zs),
    fun ys Hw H => sq nn mm h rs mst ys.length = none ∧ Same Hw H,
    ⟨[], none, rfl, Nat.zero_le _, .inl rfl, rfl, e1 _ _ hF, k01, trivial⟩, fun wk => ?_, fun ys σ Hw w => ?_, fun ys σ Hw H w q => ?_, fun ys σ Hw x H2 w q S Hc hid => ?_⟩
  · exact ⟨p, a', Fo, nn, mm, h, rs0, rs, mst, [], rfl, hb.same e1, hS1, e1 _ _ hF, yi.l, yi.n, yi.m, yi.h0, yi.p, yi.s, yi.r, yi.e1, yi.e2, yi.g, fun ys Hw y kd H' h1 h2 h3 => ⟨y, kd, rfl, h1, h2, h3⟩, fun ys x H1 H2 h => h, fun ys Hw H' h1 h2 => ⟨h1, h2⟩⟩
  · obtain ⟨xs, s, rfl, l, _⟩ := w
    rw [List.length_map]
    exact Nat.lt_of_le_of_lt (show _ ≤ 5000 by omega) (by decide)
  · obtain ⟨xs, s, rfl, l, hs, rfl, hF', k0, ak⟩ := w
    obtain ⟨q1, q2⟩ := q
    rw [List.length_map] at q1
    have e : xs.length = T.length := by
      rcases Nat.lt_or_ge xs.length T.length with g | g
      · rw [hT _ g, List.getElem?_eq_getElem g] at q1
        cases q1
      · omega
    rw [e, List.take_length] at ak
    exact hfin s H xs ((k0.trans (Same.keeps q2)).same nF) (q2 _ _ hF') (ak.imp fun _ _ z => z.same q2)
  · obtain ⟨xs, s, rfl, l, hs, rfl, hF', k0, ak⟩ := w
    obtain ⟨y, kd, rfl, q1, q2, ik⟩ := q
    rw [List.length_map] at q1
    have lt : xs.length < T.length := by
      rcases Nat.lt_or_ge xs.length T.length with g | g
      · exact g
      · have e : xs.length = T.length := by omega
        rw [e] at q1
        rcases hend with c | ⟨c1, c2⟩
        · rw [c] at q1
          cases q1
        · rcases hs with c | c
          · omega
          · rw [e, c2] at c
            cases c
    rw [hT _ lt] at q1
    have hF2 := q2 _ _ hF'
    have hFc := hid.up hF2
    have nS := hid.nS hF2
    have up : Same H2 Hc := fun b o e => hid.up e
    have eS : (σ0 s).set 6 (some (V.ref y)) = σ0 (some (V.ref y)) := hset _ _
    show tSeq _ _ _ ((σ0 s).set 6 (some (V.ref y))) Hc
    rw [eS]
    refine ⟨_, h5 _, ⟨Fo, _, rfl, hFc⟩, _, h6 _, Fo, _, _, rfl, rfl, hFc, ?_, ?_⟩
    · rw [List.length_map]
      exact Nat.lt_of_le_of_lt (show _ ≤ 5000 by omega) (by decide)
    have ak2 : AllK CB CK K H2 nn mm (xs ++ [y]) (T.take (xs.length + 1)) := by
      rw [List.take_add_one, q1]
      exact (ak.imp fun _ _ z => z.same q2).app ⟨ik, trivial⟩
    have h3 : ∀ Hx : Hp, upd Hx Fo (.lst (xs.map V.ref ++ [V.ref y])) Fo = some (.lst ((xs ++ [y]).map V.ref)) := fun Hx => by
      rw [upd_same, List.map_append]
      rfl
    refine htt _ _ _ (h3 Hc) _ ?_
    have ll : ((xs ++ [y]).map V.ref).length = xs.length + 1 := by
      rw [List.length_map, List.length_append]
      rfl
    rw [ll]
    have k02 := k0.trans (Same.keeps q2)
    cases hsp : stop (xs.length + 1) with
    | true =>
      refine iteT ?_
      have e := hst _ (Nat.le_add_left 1 _) lt hsp
      rw [e, List.take_length] at ak2
      exact hfin _ _ (xs ++ [y]) (((k02.trans (Same.keeps up)).trans Keeps.upd).same nF) (h3 Hc) ((ak2.imp fun _ _ z => z.same up).imp fun _ _ z => z.keep hFc Keeps.upd)
    | false =>
      refine iteF ?_
      have eu : unhid S (upd Hc Fo (.lst (xs.map V.ref ++ [V.ref y]))) = upd H2 Fo (.lst (xs.map V.ref ++ [V.ref y])) := by
        rw [unhid_upd nS, hid.un]
      refine ⟨fun b hb => ?_, ?_, ?_⟩
      · have nb : b ≠ Fo := fun z => nS (by rw [← z]; exact hb)
        rw [upd_ne nb]
      · rw [eu]
        refine ⟨xs ++ [y], _, by rw [List.map_append]; rfl, ?_, .inr ?_, rfl, h3 H2, k02.trans Keeps.upd, ?_⟩
        · rw [List.length_append]
          exact lt
        · rw [List.length_append]
          exact hsp
        · rw [show (xs ++ [y]).length = xs.length + 1 by rw [List.length_append]; rfl]
          exact ak2.imp fun _ _ z => z.keep hF2 Keeps.upd
      · rw [eu]
        exact ⟨by rw [List.length_map]; omega, Keeps.upd, _, upd_same⟩
section
variable {P : Program} {w : World} {K : PySem.W.Frag} {mg : Str → Option Value} {base : Heap} {k : Nat} {f : Addr} {fd : FuncData}
structure YOut (nn mm h : Int) (rs : List Int) (c : Nat) (way : Int) (T : List Kd) : Prop where
  tl : T.length ≤ 4000
  tc : T.length ≤ c
  ex : ((way = 0 ∨ way = 1) ∧ (∀ i, i < T.length → sq nn mm h rs none i = T[i]?) ∧ 1 ≤ c ∧ (T.length = c ∨ sq nn mm h rs none T.length = none)) ∨ (way = 2 ∧ (∀ i, i < T.length → sq nn mm h rs (some c) i = T[i]?) ∧ sq nn mm h rs (some c) T.length = none)
def spYield (K : PySem.W.Frag) (CB CK : Addr) : Sp := fun vs H Q _ => ∃ (p a : Addr) (nn mm h way : Int) (c : Nat) (rs0 rs : List Int) (T : List Kd), vs = [.ref p, .int h, .ref a, .int (c : Int), .int way] ∧ IsBook CB H p nn mm ∧ SqX K H a (rs0.map V.int) ∧ YIn nn mm h rs0 rs ∧ YOut nn mm h rs c way T ∧
  ∀ L H' xs, Same H H' → H L = none → H' L = some (.lst (xs.map V.ref)) → AllK CB CK K H' nn mm xs T → Q (.ref L) H'
theorem ok_law_yielded {CB CK : Addr} (T : Tx mg) (C_kinds_of : GMk P w K mg base k CB CK) (F : Fun K "_law_yielded" "_law_yielded" s__law_yielded f fd) : FnOk P w K mg base CX0 (k + 2) f fd ["ground", "grips", "edge", "cut", "way"] (spYield K CB CK) := by
  refine F.ok sc__law_yielded (fun vs H Q E h => ?_) (fun cdv A outer s H vs Q E hr h => ?_)
  · obtain ⟨_, _, _, _, _, _, _, _, _, _, rfl, _⟩ := h
    rfl
  · obtain ⟨p, a, nn, mm, h, way, c, rs0, rs, Tt, rfl, hb, hS, yi, yo, q⟩ := h
    refine ⟨_, PSs.nox (pss_cons (ps_set (i := 5) sc__law_yielded.nd rfl (.inl rfl) (pe_lst pa_nil))
    (pss_cons (ps_if (pt_cmpR op_eq (pv 4) pe_int (nomark _)) (pss_cons (ps_forG PassesOwn.never rfl hr (pg_0 C_kinds_of (hr.mono (Nat.le_succ _)) (pa_cons (pv 0) (pa_cons (pv 1) (pa_cons (pv 2) pa_nil)))) (pgg_name (i := 6) sc__law_yielded.nd rfl rfl) (pssg_cons (psg_expr (peg_append (pvg 5) (pvg 6))) (pssg_cons (psg_if (ptg_eq (peg_len (by rfl) T.b_len (pvg 5)) (pvg 3)) (pssg_cons psg_break pssg_nil) pssg_nil) pssg_nil))) (pss_one (ps_ret (pv 5)))) pss_nil)
    (pss_cons (ps_if (pt_cmpR op_eq (pv 4) pe_int (nomark _)) (pss_cons (ps_forG PassesOwn.never rfl hr (pg_2 C_kinds_of (hr.mono (Nat.le_succ _)) (pk_cons pe_non (pk_cons (pe_callTy call_tuple_A (by rfl) T.b_tuple (by decide +kernel) (pa_cons (pv 2) pa_nil)) (pk_cons (pv 0) (pk_cons (pv 1) pk_nil))))) (pgg_name (i := 6) sc__law_yielded.nd rfl rfl) (pssg_cons (psg_expr (peg_append (pvg 5) (pvg 6))) (pssg_cons (psg_if (ptg_eq (peg_len (by rfl) T.b_len (pvg 5)) (pvg 3)) (pssg_cons psg_break pssg_nil) pssg_nil) pssg_nil))) (pss_one (ps_ret (pv 5)))) pss_nil)
    (pss_cons (ps_forG PassesOwn.never rfl hr (pg_1 C_kinds_of (hr.mono (Nat.le_succ _)) (pa_cons (pv 0) (pa_cons (pv 1) (pa_cons (pv 2) pa_nil))) (pk_cons (pv 3) pk_nil)) (pgg_name (i := 6) sc__law_yielded.nd rfl rfl) (pssg_cons (psg_expr (peg_append (pvg 5) (pvg 6))) (pssg_cons (psg_if (ptg_gt (peg_len (by rfl) T.b_len (pvg 5)) (peg_add (pvg 3) peg_int)) (pssg_cons psg_break pssg_nil) pssg_nil) pssg_nil)))
    (pss_one (ps_ret (pv 5))))))), ?_⟩
    refine ⟨(by show 0 ≤ sizeLine; decide), fun Fo hF => ?_⟩
    have eF : Same H (upd H Fo (.lst [])) := Same.new hF
    have fin : ∀ (H' : Hp) (xs : List Addr), Same H H' → H' Fo = some (.lst (xs.map V.ref)) → AllK CB CK K H' nn mm xs Tt → Q (.ref Fo) H' := fun H' xs e1 e2 e3 => q Fo H' xs e1 hF e2 e3
    refine ⟨_, rfl, rfl, _, rfl, ?_⟩
    rw [decI]
    rcases yo.ex with ⟨hw, hT, hc, hend⟩ | ⟨rfl, hT, hend⟩
    · have hst : ∀ n, 1 ≤ n → n ≤ Tt.length → decide (n = c) = true → n = Tt.length := fun n _ h1 h2 => by
        have := of_decide_eq_true h2
        have := yo.tc
        omega
      have hend' : sq nn mm h rs none Tt.length = none ∨ (1 ≤ Tt.length ∧ decide (Tt.length = c) = true) := by
        rcases hend with e | e
        · exact .inr ⟨by omega, decide_eq_true e⟩
        · exact .inl e
      have htt : ∀ (s : Option V) (H' : Hp) (xs : List V), H' Fo = some (.lst xs) → ∀ Q : Bool → Hp → Prop, Q (decide (xs.length = c)) H' → tTI (fun i j => decide (i = j)) (tCB (rLenL K) (tCons (tVar 5) tNil)) (tVar 3) [some (.ref p), some (.int h), some (.ref a), some (.int (c : Int)), some (.int way), some (.ref Fo), s] H' Q := fun s H' xs hx Q' q' => by
        refine ⟨_, rfl, Fo, xs, rfl, SqL.of hx, _, rfl, _, _, rfl, rfl, ?_⟩
        show Q' (decide ((xs.length : Int) = (c : Int))) H'
        rw [show decide ((xs.length : Int) = (c : Int)) = decide (xs.length = c) by rw [decide_eq_decide]; exact Int.ofNat_inj]
        exact q'
      rcases hw with rfl | rfl
      · refine iteT ?_
        dsimp only [tNext, tSeq, gName, tAsg, tRet]
        refine rd_forG (K := K) (CB := CB) (CK := CK) (a := a) (mst := none) (σ0 := fun s => [some (.ref p), some (.int h), some (.ref a), some (.int (c : Int)), some (.int 0), some (.ref Fo), s]) (stop := fun n => decide (n = c)) yi (hb.same eF) (hS.same eF).a hF (Same.keeps eF) upd_same (fun _ _ => rfl) (fun _ => rfl) (fun _ => rfl) (fun cont hcont => ?_) htt hT yo.tl hst hend' (fun s H' xs e1 e2 e3 => ⟨_, rfl, fin H' xs e1 e2 e3⟩)
        exact ⟨_, rfl, _, rfl, _, rfl, rfl, hcont a _ (Same.refl _) (hS.same eF).a⟩
      · refine iteF ?_
        refine ⟨_, rfl, rfl, _, rfl, iteT ?_⟩
        dsimp only [tNext, tSeq, gName, tAsg, tRet]
        refine rd_forG (K := K) (CB := CB) (CK := CK) (a := a) (mst := none) (σ0 := fun s => [some (.ref p), some (.int h), some (.ref a), some (.int (c : Int)), some (.int 1), some (.ref Fo), s]) (stop := fun n => decide (n = c)) yi (hb.same eF) (hS.same eF).a hF (Same.keeps eF) upd_same (fun _ _ => rfl) (fun _ => rfl) (fun _ => rfl) (fun cont hcont => ?_) htt hT yo.tl hst hend' (fun s H' xs e1 e2 e3 => ⟨_, rfl, fin H' xs e1 e2 e3⟩)
        refine ⟨_, rfl, a, _, rfl, hS.same eF, fun t H' e' ht => ⟨_, rfl, _, rfl, rfl, rfl, rfl, ?_⟩⟩
        exact hcont t _ e' (sqA_t ht)
    · refine iteF ?_
      refine ⟨_, rfl, rfl, _, rfl, iteF ?_⟩
      dsimp only [tNext, tSeq, gName, tAsg, tRet]
      refine rd_forG (K := K) (CB := CB) (CK := CK) (a := a) (mst := some c) (σ0 := fun s => [some (.ref p), some (.int h), some (.ref a), some (.int (c : Int)), some (.int 2), some (.ref Fo), s]) (stop := fun n => decide (c + 9 < n)) yi (hb.same eF) (hS.same eF).a hF (Same.keeps eF) upd_same (fun _ _ => rfl) (fun _ => rfl) (fun _ => rfl) (fun cont hcont => ?_) ?_ hT yo.tl (fun n _ h1 h2 => ?_) (.inl hend) (fun s H' xs e1 e2 e3 => ⟨_, rfl, fin H' xs e1 e2 e3⟩)
      · exact ⟨_, rfl, _, rfl, _, rfl, _, rfl, rfl, rfl, rfl, hcont a _ (Same.refl _) (hS.same eF).a⟩
      · intro s H' xs hx Q' q'
        refine ⟨_, rfl, Fo, xs, rfl, SqL.of hx, _, rfl, _, _, rfl, rfl, _, _, rfl, rfl, ?_⟩
        show Q' (decide ((c : Int) + 9 < (xs.length : Int))) H'
        rw [show decide ((c : Int) + 9 < (xs.length : Int)) = decide (c + 9 < xs.length) by rw [decide_eq_decide]; omega]
        exact q'
      · have := of_decide_eq_true h2
        have := yo.tc
        omega
end
end C53
set_option Elab.async false
set_option linter.all false
set_option maxRecDepth 100000
/-! plain: the law's kinds are the program's -/
namespace C53
open PySem PySem.Spec PyProof.Rows L2 Ex
def dueK (nn mm h : Int) (rs : List Int) : List Kd := if endl nn mm h rs = true then (List.range 7).map (mk1 rs) else kindsW nn mm h rs
theorem endl_g {nn mm : Int} {rs : List Int} (h : gN (mm :: rs.map (· + nn)) = 0) : endl nn mm 1 rs = true := by
  have h2 := (dvd_gN 0 (mm :: rs.map (· + nn))).mp (by rw [h]; exact Nat.dvd_refl 0)
  have z : ∀ x ∈ mm :: rs.map (· + nn), x = 0 := fun x hx => by
    have := Nat.eq_zero_of_zero_dvd (h2 x hx)
    omega
  unfold endl
  rw [decide_eq_true (z mm (List.mem_cons_self ..)), decide_eq_true rfl, Bool.true_and, Bool.true_and, List.all_eq_true]
  intro r hr
  have := z (r + nn) (List.mem_cons_of_mem _ (List.mem_map.mpr ⟨r, hr, rfl⟩))
  exact decide_eq_true (by omega)
theorem g_endl {nn mm h : Int} {rs : List Int} (e : endl nn mm h rs = true) : gN (mm :: rs.map (· + nn)) = 0 := by
  obtain ⟨rfl, rfl, hr⟩ := endl_of e
  refine Nat.eq_zero_of_zero_dvd ((dvd_gN 0 _).mpr fun z hz => ?_)
  have : z = 0 := by
    rcases List.mem_cons.mp hz with e | hz
    · exact e
    · obtain ⟨r, hr', rfl⟩ := List.mem_map.mp hz
      have := hr r hr'
      omega
  rw [this]
  exact Nat.dvd_refl 0
theorem endl_sum {nn mm h : Int} {rs : List Int} (e : endl nn mm h rs = true) : sumOk nn mm h rs = true := by
  obtain ⟨rfl, rfl, hr⟩ := endl_of e
  have hs : ∀ l : List Int, (∀ r ∈ l, r = -nn) → l.sum = -nn * l.length := by
    intro l
    induction l with
    | nil => intro _; simp
    | cons x r ih =>
      intro hl
      rw [List.sum_cons, ih fun z hz => hl z (List.mem_cons_of_mem _ hz), hl x (List.mem_cons_self ..), List.length_cons, Int.natCast_add, Int.mul_add]
      omega
  unfold sumOk dvd' dueSum
  rw [if_pos rfl, hs rs hr]
  refine decide_eq_true ?_
  rw [show nn * (2 - 2 * 1 - (rs.length : Int)) = -nn * rs.length by rw [show (2 - 2 * 1 - (rs.length : Int)) = -(rs.length : Int) by omega, Int.mul_neg, Int.neg_mul]]
  omega
theorem dv_cut {g n : Nat} (hg : 0 < g) (h : g ≤ n) : dv g n = dv g g := by
  refine sorted_unique (dv_sorted g n) (dv_sorted g g) fun x => ?_
  rw [mem_dv, mem_dv]
  constructor
  · rintro ⟨a, b⟩
    exact ⟨⟨a.1, Nat.le_of_dvd hg (Nat.dvd_of_mod_eq_zero b)⟩, b⟩
  · rintro ⟨a, b⟩
    exact ⟨⟨a.1, by omega⟩, b⟩
theorem flat_if {α : Type} (l : List Nat) (p : Nat → Bool) (f : Nat → List α) : (l.flatMap fun s => if p s = true then f s else []) = (l.filter p).flatMap f := by
  induction l with
  | nil => rfl
  | cons x r ih =>
    rw [List.flatMap_cons, ih, List.filter_cons]
    cases p x with
    | true => rfl
    | false => rfl
theorem bal_filt (nn mm : Int) (rs : List Int) (s : Nat) : ([none, some 0, some (-1), some 1] : List (Option Int)).filter (balOk nn mm rs s) = balFor nn mm rs s := by
  unfold balFor balOk
  by_cases hb : hasBal nn mm (s : Int) = true
  · by_cases ho : oddRim nn rs (s : Int) = true
    · simp [hb, ho]
    · rw [Bool.not_eq_true] at ho
      simp [hb, ho]
  · simp [hb]
theorem law_due {nn mm h : Int} {rs : List Int} (hn : 1 ≤ nn) (hh : 0 ≤ h) (hs : sumOk nn mm h rs = true) : lawKinds nn mm h rs = dueK nn mm h rs := by
  unfold lawKinds dueK cand
  cases he : endl nn mm h rs with
  | true =>
    obtain ⟨rfl, rfl, hr⟩ := endl_of he
    rw [if_neg (by decide), if_pos rfl, g_endl he, if_pos rfl, if_pos rfl, List.filter_eq_self]
    intro kd hk
    obtain ⟨d, _, rfl⟩ := List.mem_map.mp hk
    unfold lawOk
    rw [if_neg (by show ¬ (1 : Int) = 0; decide), if_pos (show (mk1 rs d).h = 1 from rfl)]
    refine decide_eq_true ?_
    show _ ∣ gN (0 :: rs.map (· + nn))
    rw [g_endl he]
    exact Nat.dvd_zero _
  | false =>
    rw [if_neg (show ¬ (false = true) by decide)]
    unfold kindsW
    rw [if_pos hs]
    by_cases h0 : h = 0
    · subst h0
      rw [if_pos rfl, if_pos rfl]
      rfl
    · rw [if_neg h0, if_neg h0]
      by_cases h1 : h = 1
      · subst h1
        rw [if_pos rfl, if_pos rfl]
        have g0 : gN (mm :: rs.map (· + nn)) ≠ 0 := fun z => by
          rw [endl_g z] at he
          cases he
        rw [if_neg g0, List.filter_map]
        unfold dv
        congr 1
        refine List.filter_congr fun d _ => ?_
        show lawOk nn mm (mk1 rs d) = _
        unfold lawOk
        rw [if_neg (by show ¬ (1 : Int) = 0; decide), if_pos (show (mk1 rs d).h = 1 from rfl)]
        show decide (((d : Int)).toNat ∣ gN (mm :: rs.map (· + nn))) = _
        rw [Int.toNat_natCast, Bool.eq_iff_iff, decide_eq_true_iff, beq_iff_eq]
        exact ⟨Nat.mod_eq_zero_of_dvd, Nat.dvd_of_mod_eq_zero⟩
      · rw [if_neg h1, if_neg h1]
        have g2 := gN_le (zs := nn :: mm :: rs) (List.mem_cons_self ..) (by omega)
        rw [List.filter_flatMap]
        have per : ∀ s : Nat, (([none, some 0, some (-1), some 1] : List (Option Int)).map (mk2 h rs s)).filter (lawOk nn mm) = if (gN (nn :: mm :: rs) % s == 0) = true then (balFor nn mm rs (s : Int)).map (mk2 h rs s) else [] := fun s => by
          rw [List.filter_map]
          have e : ∀ b, (lawOk nn mm ∘ mk2 h rs s) b = ((gN (nn :: mm :: rs) % s == 0) && balOk nn mm rs s b) := fun b => by
            show lawOk nn mm (mk2 h rs s b) = _
            unfold lawOk
            rw [if_neg (show ¬ (mk2 h rs s b).h = 0 from h0), if_neg (show ¬ (mk2 h rs s b).h = 1 from h1)]
            show (decide (((s : Int)).toNat ∣ gN (nn :: mm :: rs)) && balOk nn mm rs (s : Int) b) = _
            rw [Int.toNat_natCast]
            congr 1
            rw [Bool.eq_iff_iff, decide_eq_true_iff, beq_iff_eq]
            exact ⟨Nat.mod_eq_zero_of_dvd, Nat.dvd_of_mod_eq_zero⟩
          cases hd : (gN (nn :: mm :: rs) % s == 0) with
          | true =>
            rw [if_pos rfl, ← bal_filt]
            congr 1
            refine List.filter_congr fun b _ => ?_
            rw [e, hd, Bool.true_and]
          | false =>
            rw [if_neg (by decide)]
            rw [List.filter_eq_nil_iff.mpr fun b _ => by rw [e, hd, Bool.false_and]; decide]
            rfl
        rw [show (fun a => List.filter (lawOk nn mm) (([none, some 0, some (-1), some 1] : List (Option Int)).map (mk2 h rs a))) = fun s => if (gN (nn :: mm :: rs) % s == 0) = true then (balFor nn mm rs (s : Int)).map (mk2 h rs s) else [] from funext per]
        rw [flat_if]
        show (dv (gN (nn :: mm :: rs)) nn.toNat).flatMap _ = _
        rw [dv_cut g2.1 (by omega)]
theorem g1_le {nn mm : Int} {rs : List Int} (hn : 1 ≤ nn ∧ nn ≤ 12) (hm : mm = 0 ∨ (2 ≤ mm ∧ mm ≤ 24)) (hr : ∀ r ∈ rs, r.natAbs ≤ 1101) : gN (mm :: rs.map (· + nn)) ≤ 1120 := by
  by_cases hg : gN (mm :: rs.map (· + nn)) = 0
  · omega
  · have : ∃ z, z ∈ (mm :: rs.map (· + nn)) ∧ z ≠ 0 := by
      by_cases q2 : ∃ z, z ∈ (mm :: rs.map (· + nn)) ∧ z ≠ 0
      · exact q2
      · exfalso
        refine hg (Nat.eq_zero_of_zero_dvd ((dvd_gN 0 _).mpr fun z hz => ?_))
        have : z = 0 := by
          by_cases q3 : z = 0
          · exact q3
          · exact absurd ⟨z, hz, q3⟩ q2
        rw [this]
        exact Nat.dvd_refl 0
    obtain ⟨z, hz, hz0⟩ := this
    have hle := (gN_le hz hz0).2
    rcases List.mem_cons.mp hz with rfl | hz
    · omega
    · obtain ⟨r, hr', rfl⟩ := List.mem_map.mp hz
      have := hr r hr'
      omega
structure Bnd (nn mm h : Int) (rs : List Int) : Prop where
  n : 1 ≤ nn ∧ nn ≤ 12
  m : mm = 0 ∨ (2 ≤ mm ∧ mm ≤ 24)
  h0 : 0 ≤ h ∧ h ≤ 5
  r : ∀ r ∈ rs, r.natAbs ≤ 1101
  l : 1 ≤ rs.length ∧ rs.length ≤ 5
theorem kw_len {nn mm h : Int} {rs : List Int} (b : Bnd nn mm h rs) : (kindsW nn mm h rs).length ≤ 1200 := by
  have g1 := g1_le b.n b.m b.r
  have g2 := gN_le (zs := nn :: mm :: rs) (List.mem_cons_self ..) (by have := b.n; omega)
  have bn := b.n
  unfold kindsW
  split
  · split
    · show 1 ≤ 1200
      decide
    · split
      · rw [List.length_map]
        have := dv_len (gN (mm :: rs.map (· + nn))) (gN (mm :: rs.map (· + nn)))
        omega
      · have h1 := flat_len (f := fun (s : Nat) => (balFor nn mm rs (s : Int)).map (mk2 h rs s)) (fun s => by rw [List.length_map]; exact bal_len _ _ _ _) (dv (gN (nn :: mm :: rs)) (gN (nn :: mm :: rs)))
        have := dv_len (gN (nn :: mm :: rs)) (gN (nn :: mm :: rs))
        omega
  · exact Nat.zero_le _
theorem due_len {nn mm h : Int} {rs : List Int} (b : Bnd nn mm h rs) : (dueK nn mm h rs).length ≤ 1200 := by
  unfold dueK
  split
  · rw [List.length_map, List.length_range]
    decide
  · exact kw_len b
theorem yout1 {nn mm h : Int} {rs : List Int} (b : Bnd nn mm h rs) {way : Int} (hw : way = 0 ∨ way = 1 ∨ way = 2) : YOut nn mm h rs (if endl nn mm h rs = true then 7 else 2000) way (dueK nn mm h rs) := by
  have hl := due_len b
  unfold dueK at *
  cases he : endl nn mm h rs with
  | true =>
    rw [he] at hl
    simp only [if_true] at *
    have len : ((List.range 7).map (mk1 rs)).length = 7 := by rw [List.length_map, List.length_range]
    refine ⟨by omega, by omega, ?_⟩
    rcases hw with hw | hw | hw
    · exact .inl ⟨.inl hw, fun i hi => by
        unfold sq sqE
        rw [len] at hi
        rw [if_pos he, List.getElem?_map, List.getElem?_range hi]
        rfl, by decide, .inl len⟩
    · exact .inl ⟨.inr hw, fun i hi => by
        unfold sq sqE
        rw [len] at hi
        rw [if_pos he, List.getElem?_map, List.getElem?_range hi]
        rfl, by decide, .inl len⟩
    · refine .inr ⟨hw, fun i hi => ?_, ?_⟩
      · unfold sq sqE
        rw [len] at hi
        rw [if_pos he, List.getElem?_map, List.getElem?_range hi]
        exact if_pos hi
      · unfold sq sqE
        rw [if_pos he, len]
        exact if_neg (by decide)
  | false =>
    rw [he] at hl
    simp only [Bool.false_eq_true, if_false] at *
    refine ⟨by omega, by omega, ?_⟩
    rcases hw with hw | hw | hw
    · refine .inl ⟨.inl hw, fun i hi => ?_, by decide, .inr ?_⟩
      · unfold sq
        rw [if_neg (by rw [he]; decide)]
        rfl
      · unfold sq
        rw [if_neg (by rw [he]; decide)]
        exact List.getElem?_eq_none (Nat.le_refl _)
    · refine .inl ⟨.inr hw, fun i hi => ?_, by decide, .inr ?_⟩
      · unfold sq
        rw [if_neg (by rw [he]; decide)]
        rfl
      · unfold sq
        rw [if_neg (by rw [he]; decide)]
        exact List.getElem?_eq_none (Nat.le_refl _)
    · have tk : (kindsW nn mm h rs).take 2000 = kindsW nn mm h rs := List.take_of_length_le (by omega)
      refine .inr ⟨hw, fun i hi => ?_, ?_⟩
      · unfold sq sqK
        rw [if_neg (by rw [he]; decide)]
        dsimp only
        rw [tk]
      · unfold sq sqK
        rw [if_neg (by rw [he]; decide)]
        dsimp only
        rw [tk]
        exact List.getElem?_eq_none (Nat.le_refl _)
theorem yout2 {nn mm h : Int} {rs : List Int} (b : Bnd nn mm h rs) {c : Nat} (hc : c ≤ 7 ∨ c = (dueK nn mm h rs).length) : YOut nn mm h rs c 2 ((dueK nn mm h rs).take c) := by
  have hl := due_len b
  have h1 : ((dueK nn mm h rs).take c).length ≤ c := by rw [List.length_take]; exact Nat.min_le_left _ _
  have h2 : ((dueK nn mm h rs).take c).length ≤ 1200 := by rw [List.length_take]; exact Nat.le_trans (Nat.min_le_right _ _) hl
  refine ⟨by omega, h1, .inr ⟨rfl, ?_⟩⟩
  unfold dueK at *
  cases he : endl nn mm h rs with
  | true =>
    rw [he] at hc
    simp only [if_true] at *
    have hc7 : c ≤ 7 := by
      rcases hc with e | e
      · exact e
      · rw [List.length_map, List.length_range] at e
        omega
    have tk : ((List.range 7).map (mk1 rs)).take c = (List.range c).map (mk1 rs) := by
      rw [← List.map_take, List.take_range, Nat.min_eq_left hc7]
    rw [tk]
    have len : ((List.range c).map (mk1 rs)).length = c := by rw [List.length_map, List.length_range]
    constructor
    · intro i hi
      rw [len] at hi
      unfold sq sqE
      rw [if_pos he, List.getElem?_map, List.getElem?_range hi]
      exact if_pos hi
    · unfold sq sqE
      rw [if_pos he, len]
      exact if_neg (by omega)
  | false =>
    simp only [Bool.false_eq_true, if_false] at *
    constructor
    · intro i hi
      unfold sq sqK
      rw [if_neg (by rw [he]; decide)]
    · unfold sq sqK
      rw [if_neg (by rw [he]; decide)]
      exact List.getElem?_eq_none (Nat.le_refl _)
theorem due_ok {nn mm h : Int} {rs : List Int} (b : Bnd nn mm h rs) {kd : Kd} (hk : kd ∈ dueK nn mm h rs) : TxtOk nn mm kd ∧ kd.rs ≠ [] ∧ SgnOk kd := by
  have bn := b.n
  have bm := b.m
  have bh := b.h0
  have br := b.r
  have bl := b.l
  have g1 := g1_le bn bm br
  have g2 := gN_le (zs := nn :: mm :: rs) (List.mem_cons_self ..) (by omega)
  have lr : ∀ r ∈ rs, Lil r := fun r hr => lil_of (by have := br r hr; omega)
  have rne : rs ≠ [] := fun e => by
    rw [e] at bl
    simp at bl
  have k1 : ∀ d : Nat, d ≤ 2000 → TxtOk nn mm (mk1 rs d) ∧ (mk1 rs d).rs ≠ [] ∧ SgnOk (mk1 rs d) := fun d hd => by
    refine ⟨⟨lil_of (by omega), lil_of (by omega), lil_of (by show -1000000000 < (1 : Int) ∧ (1 : Int) < 1000000000; omega), by show rs.length ≤ 1000; omega, lr, fun _ => ⟨d, rfl, lil_of (by omega)⟩, fun z => absurd z (by show ¬ (2 : Int) ≤ 1; decide)⟩, rne, fun z => absurd z (by show ¬ (2 : Int) ≤ 1; decide)⟩
  unfold dueK at hk
  split at hk
  · obtain ⟨d, hd, rfl⟩ := List.mem_map.mp hk
    rw [List.mem_range] at hd
    exact k1 d (by omega)
  · unfold kindsW at hk
    split at hk
    · split at hk
      · obtain rfl := List.mem_singleton.mp hk
        exact ⟨⟨lil_of (by omega), lil_of (by omega), lil_of (by show -1000000000 < (0 : Int) ∧ (0 : Int) < 1000000000; omega), by show rs.length ≤ 1000; omega, lr, fun z => absurd z (by show ¬ (0 : Int) = 1; decide), fun z => absurd z (by show ¬ (2 : Int) ≤ 0; decide)⟩, rne, fun z => absurd z (by show ¬ (2 : Int) ≤ 0; decide)⟩
      · split at hk
        · obtain ⟨d, hd, rfl⟩ := List.mem_map.mp hk
          have := dvd_dv hd
          exact k1 d (by omega)
        · rename_i hs hh0 hh1
          obtain ⟨s, hs', hk⟩ := List.mem_flatMap.mp hk
          obtain ⟨bb, hb, rfl⟩ := List.mem_map.mp hk
          have := dvd_dv hs'
          exact ⟨⟨lil_of (by omega), lil_of (by omega), lil_of (by show -1000000000 < h ∧ h < 1000000000; omega), by show rs.length ≤ 1000; omega, lr, fun z => absurd z hh1, fun _ => ⟨s, rfl, lil_of (by omega)⟩⟩, rne, fun _ => (bal_ok hb).2⟩
    · cases hk
end C53
set_option Elab.async false
set_option linter.all false
set_option maxRecDepth 100000
namespace C53
open PySem PySem.Spec PyProof.Rows L2 Ex
theorem broken_sum {nn mm h : Int} {rs es rs' : List Int} (hm : mm = 0 ∨ 2 ≤ mm) (hs : sumOk nn mm h rs = true) (hl : es.length = rs.length) (he : es.sum = rs.sum + 1) (hp : rs'.Perm (es.map (red' mm))) : sumOk nn mm h rs' = false := by
  obtain ⟨q, hq⟩ := red_sum (mm := mm) es
  have hl' : rs'.length = rs.length := by rw [hp.length_eq, List.length_map, hl]
  unfold sumOk at hs ⊢
  rw [perm_sum hp, hq, hl', he]
  unfold dvd' at hs ⊢
  rcases hm with hm | hm
  · subst hm
    rw [if_pos rfl] at hs ⊢
    have := of_decide_eq_true hs
    exact decide_eq_false (by omega)
  · rw [if_neg (by omega)] at hs ⊢
    have h1 := of_decide_eq_true hs
    refine decide_eq_false fun h2 => ?_
    have e : rs.sum + 1 + mm * q - dueSum nn h rs.length = (rs.sum - dueSum nn h rs.length) + (1 + mm * q) := by omega
    rw [e] at h2
    obtain ⟨a, ha⟩ := Int.dvd_of_emod_eq_zero h1
    obtain ⟨b, hb⟩ := Int.dvd_of_emod_eq_zero h2
    have : mm * (b - a - q) = 1 := by
      rw [Int.mul_sub, Int.mul_sub]
      omega
    have h3 : mm ∣ 1 := ⟨_, this.symm⟩
    have := Int.le_of_dvd (by decide) h3
    omega
theorem due_nil {nn mm h : Int} {rs : List Int} (hs : sumOk nn mm h rs = false) : endl nn mm h rs = false ∧ dueK nn mm h rs = [] := by
  have he : endl nn mm h rs = false := by
    cases e : endl nn mm h rs with
    | false => rfl
    | true =>
      rw [endl_sum e] at hs
      cases hs
  refine ⟨he, ?_⟩
  unfold dueK kindsW
  rw [if_neg (by rw [he]; decide), if_neg (by rw [hs]; decide)]
def EdgeRel (br : Bool) (rs es : List Int) : Prop := es.length = rs.length ∧ (∀ e ∈ es, e.natAbs ≤ 1101) ∧ (br = true → es.sum = rs.sum + 1) ∧ (br = false → es = rs)
theorem rims_range {mm : Int} {rs : List Int} (h : rimsOk mm rs = true) (hp : rs.Pairwise (· ≤ ·)) : mm = 0 ∨ ∀ r ∈ rs, 0 ≤ r ∧ r < mm := by
  unfold rimsOk at h
  rw [Bool.and_eq_true] at h
  by_cases e : mm = 0
  · exact .inl e
  · refine .inr fun r hr => ?_
    have h2 := h.2
    rw [decide_eq_false e, Bool.false_or, Bool.and_eq_true, decide_eq_true_iff, decide_eq_true_iff] at h2
    obtain ⟨i, hi, rfl⟩ := List.getElem_of_mem hr
    have g0 : rs.getD 0 0 = rs[0]'(by omega) := by rw [List.getD_eq_getElem?_getD, List.getElem?_eq_getElem (by omega)]; rfl
    have g1 : rs.getD (rs.length - 1) 0 = rs[rs.length - 1]'(by omega) := by rw [List.getD_eq_getElem?_getD, List.getElem?_eq_getElem (by omega)]; rfl
    rw [g0, g1] at h2
    have pw := List.pairwise_iff_getElem.mp hp
    constructor
    · rcases Nat.eq_zero_or_pos i with e0 | e0
      · subst e0
        exact h2.1
      · have := pw 0 i (by omega) hi e0
        omega
    · rcases Nat.lt_or_ge i (rs.length - 1) with e0 | e0
      · have := pw i (rs.length - 1) hi (by omega) e0
        omega
      · have : i = rs.length - 1 := by omega
        subst this
        exact h2.2
theorem edge_rel {nn mm h : Int} {br : Bool} {rs es : List Int} (hn : 1 ≤ nn ∧ nn ≤ 12) (hm : mm = 0 ∨ (2 ≤ mm ∧ mm ≤ 24)) (hh : 0 ≤ h ∧ h ≤ 5) (hl : 1 ≤ rs.length ∧ rs.length ≤ 5) (hp : rs.Pairwise (· ≤ ·)) (hr : rimsOk mm rs = true) (hs : sumOk nn mm h rs = true) (er : EdgeRel br rs es) :
    ∃ rs' : List Int, rs'.Perm (es.map (red' mm)) ∧ rs'.Pairwise (· ≤ ·) ∧ rimsOk mm rs' = true ∧ Bnd nn mm h rs' ∧ (br = false → rs' = rs ∧ sumOk nn mm h rs' = true) ∧ (br = true → sumOk nn mm h rs' = false) := by
  have rg := rims_range hr hp
  obtain ⟨el, eb, e1, e0⟩ := er
  cases br with
  | false =>
    obtain rfl := e0 rfl
    refine ⟨es, ?_, hp, hr, ⟨hn, hm, hh, eb, hl⟩, fun _ => ⟨rfl, hs⟩, (fun z => by cases z)⟩
    rw [show es.map (red' mm) = es by
      refine (List.map_congr_left (g := id) fun r hr' => ?_).trans (List.map_id es)
      unfold red'
      rcases rg with g | g
      · rw [if_pos g]
        rfl
      · rw [if_neg (by have := g r hr'; omega)]
        exact Int.emod_eq_of_lt (g r hr').1 (g r hr').2]
  | true =>
    have pm := List.mergeSort_perm (es.map (red' mm)) (fun a b => decide (a ≤ b))
    have ps : ((es.map (red' mm)).mergeSort fun a b => decide (a ≤ b)).Pairwise (· ≤ ·) := by
      have := List.pairwise_mergeSort (le := fun (a b : Int) => decide (a ≤ b)) (fun a b c h1 h2 => decide_eq_true (by have := of_decide_eq_true h1; have := of_decide_eq_true h2; omega)) (fun a b => by
        rw [Bool.or_eq_true, decide_eq_true_iff, decide_eq_true_iff]
        omega) (es.map (red' mm))
      exact this.imp fun h => of_decide_eq_true h
    have ln : ((es.map (red' mm)).mergeSort fun a b => decide (a ≤ b)).length = rs.length := by rw [pm.length_eq, List.length_map, el]
    have mr : ∀ r ∈ ((es.map (red' mm)).mergeSort fun a b => decide (a ≤ b)), ∃ e ∈ es, red' mm e = r := fun r hr' => List.mem_map.mp (pm.mem_iff.mp hr')
    refine ⟨_, pm, ps, rimsOk_of ?_ ps ?_, ⟨hn, hm, hh, fun r hr' => ?_, by rw [ln]; exact hl⟩, (fun z => by cases z), fun _ => broken_sum (by omega) hs el (e1 rfl) pm⟩
    · intro z
      rw [z] at ln
      simp at ln
      omega
    · by_cases e : mm = 0
      · exact .inl e
      · refine .inr fun r hr' => ?_
        obtain ⟨e', _, rfl⟩ := mr r hr'
        exact red_range (by omega)
    · obtain ⟨e', he', rfl⟩ := mr r hr'
      have := eb e' he'
      by_cases e : mm = 0
      · unfold red'
        rw [if_pos e]
        exact this
      · have := red_range (mm := mm) (r := e') (by omega)
        omega
theorem set_sum : ∀ (es : List Int) (j : Nat) (h : j < es.length), (es.set j (es[j] + 1)).sum = es.sum + 1
  | x :: r, 0, _ => by
    show ((x + 1) :: r : List Int).sum = (x :: r).sum + 1
    rw [List.sum_cons, List.sum_cons]
    omega
  | x :: r, j + 1, h => by
    have := set_sum r j (by simpa using h)
    show (x :: r.set j (r[j]'(by simpa using h) + 1)).sum = (x :: r).sum + 1
    rw [List.sum_cons, List.sum_cons, this]
    omega
theorem edge_set {rs : List Int} {j : Nat} (hj : j < rs.length) (hb : ∀ r ∈ rs, r.natAbs ≤ 1100) : EdgeRel true rs (rs.set j (rs[j] + 1)) := by
  refine ⟨List.length_set, fun e he => ?_, fun _ => set_sum rs j hj, fun z => by cases z⟩
  rcases List.mem_or_eq_of_mem_set he with h | rfl
  · have := hb e h
    omega
  · have := hb _ (List.getElem_mem hj)
    omega
theorem yin_of {nn mm h : Int} {br : Bool} {es ms hs rs' : List Int} (b : Bnd nn mm h rs') (h1 : ms.Perm es) (h2 : hs.map (red' mm) = ms.map (red' mm)) (hp : rs'.Perm (es.map (red' mm))) (hw : rs'.Pairwise (· ≤ ·)) (hr : rimsOk mm rs' = true) : YIn nn mm h hs rs' := by
  have bn := b.n
  have bm := b.m
  have g2 := gN_le (zs := nn :: mm :: rs') (List.mem_cons_self ..) (by omega)
  have g1 := g1_le bn bm b.r
  refine ⟨?_, by omega, by omega, b.h0.1, ?_, hw, hr, endl_sum, fun he hh _ => ?_, ⟨g2.1, by omega⟩⟩
  · have l1 : hs.length = ms.length := by
      have := congrArg List.length h2
      rw [List.length_map, List.length_map] at this
      exact this
    have l2 := h1.length_eq
    have l3 := hp.length_eq
    rw [List.length_map] at l3
    have := b.l
    omega
  · rw [h2]
    exact hp.trans (h1.map _).symm
  · refine ⟨?_, by omega⟩
    rcases Nat.eq_zero_or_pos (gN (mm :: rs'.map (· + nn))) with e | e
    · rw [hh, endl_g e] at he
      cases he
    · exact e
end C53
set_option Elab.async false
set_option linter.all false
set_option maxRecDepth 100000
set_option maxHeartbeats 4000000
namespace C53
open PySem PySem.Spec PyProof.Rows L2 Ex
abbrev s_law : Stmt := topS 70
abbrev N_law : List Str := ["script", "bag", "lap", "scale", "pairs", "count", "nn", "mm", "kd", "edge", "broken", "spot", "due", "handed", "kept", "ground", "endless", "got", "cut", "one"]
theorem sc_law : FnScope N_law ["script"] (defScope s_law) := ⟨rfl, rfl, rfl, by decide +kernel, rfl, by decide +kernel, by decide +kernel⟩
abbrev psBook : List Str := ["self", "arms", "modulus"]
structure BMade (P : Program) (w : World) (K : PySem.W.Frag) (mg : Str → Option Value) (base : Heap) (k : Nat) (CB : Addr) : Prop where
  ex : ∃ f fd, mg "Book" = some (.ref CB) ∧ Mk K CB f ∧ FnOk P w K mg base CX0 k f fd psBook (spBookInit CB) ∧ ∃ ds, Vals [] ds ∧ Binds K fd psBook ds
theorem pe_book {X : Cx} {k : Nat} {CB : Addr} {p pos : Pos} {e : Expr} {es : List Expr} {t : TA} (C : BMade X.prog X.w X.K X.mg X.base k CB) (hr : Room (k + 1) X.A) (ha : PA X (e :: es) t) (hg : Gl X "Book" := by rfl)
    (he : starEach (e :: es) X.env = (false, eval e X.env) :: starEach es X.env := by rfl) (hpl : (backTo pos (starEach es X.env)).any (·.1) = false := by rfl) :
    PE X (.Call (.Name "Book" p) (e :: es) [] pos) (tMake CB (spBookInit CB) [] E0 t) := by
  obtain ⟨f, fd, hm, M, F, ⟨ds, hd, hb⟩⟩ := C.ex
  exact pe_make M F hr hg hm hb hd pass0 ha (by decide) he hpl
theorem book_b {K : PySem.W.Frag} {f : Addr} {fd : FuncData} (F : FunD K "__init__" "Book.__init__" (defArgs s_Book_init) (defBody s_Book_init) (defScope s_Book_init) [.int 0] [] f fd) : ∃ ds, Vals [] ds ∧ Binds K fd psBook ds := by
  obtain ⟨ds, h1, h2⟩ := F.binds1 (ps := psBook) 3 1 (by decide) rfl fun T kV doc pm an cdv ct us its hl hi => (by
    match us, its, hl, hi with
    | [u1, u2, u3], [i1], _, _ => exact ⟨_, rfl, rfl⟩)
  exact ⟨ds, h1, h2⟩
theorem spOf_l {K : PySem.W.Frag} {H1 : Hp} {b Ac L : Addr} {xs : List V} {Q : VK} (hb1 : BagOk H1 b Ac) (hL : H1 L = some (.lst xs)) (n : L ≠ b) (hl : 0 < xs.length ∧ xs.length ≤ 1000000) (q' : ∀ x H', x ∈ xs → BagOk H' b Ac → Keeps b H1 H' → Q x H') : spOf K [.ref b, .ref L] H1 Q E0 :=
  ⟨b, Ac, _, _, rfl, hb1, sqA_l hL, hl, n, fun H' k' => sqA_l (k' _ _ n hL), q'⟩
theorem ifB {e : Bool} {a b : Int} {R : VK} {H : Hp} (h : R (.int (if e = true then a else b)) H) : if e = true then R (.int a) H else R (.int b) H := by
  cases e <;> exact h
theorem ifT {e : Bool} {a b : Int} {R : VK} {σ : L2.St} {H : Hp} (h : R (.int (if e = true then a else b)) H) : if e = true then tC (.int a) σ H R else tC (.int b) σ H R := by
  cases e <;> exact h
theorem BagOk.ne {H : Hp} {b A L : Addr} (h : BagOk H b A) (n : H L = none) : L ≠ b := by
  obtain ⟨o, ho⟩ := h.here
  exact (ne_of_none ho n).symm
theorem for_I {K : PySem.W.Frag} {ι : Type} {xs : ι → List V} {g : TG} {tb : TS} {D : Ends} {σ : L2.St} {H : Hp} {tl : TE} (Src : ι → Addr → Hp → Prop) (Pv : ι → Addr → Hp → Nat → L2.St → Hp → Prop) (hl : ∀ R : VK, (∀ u a H1, Src u a H1 → R (.ref a) H1) → tl σ H R) (src : ∀ u a H1, Src u a H1 → SqA K H1 a (xs u))
    (h0 : ∀ u a H1, Src u a H1 → Pv u a H1 0 σ H1) (hk : ∀ u a H1, Src u a H1 → ∀ i σ' H', Pv u a H1 i σ' H' → ∀ x, H1 a = some x → H' a = some x)
    (hs : ∀ u a H1, Src u a H1 → ∀ i x σ H, (xs u)[i]? = some x → Pv u a H1 i σ H → g x σ H fun σ2 H2 => tb { D with nx := Pv u a H1 (i + 1), ct := Pv u a H1 (i + 1), bk := D.nx } σ2 H2) (hd : ∀ u a H1, Src u a H1 → ∀ σ H, Pv u a H1 (xs u).length σ H → D.nx σ H) : tFor (iSeq K tl) g tb D σ H :=
  hl _ fun u a H1 e => for_A (K := K) (a := a) (xs := xs u) (tl := fun _ H R => R (.ref a) H) (Pv u a H1) (fun R r => r) (src u a H1 e) (h0 u a H1 e) (hk u a H1 e) (hs u a H1 e) (hd u a H1 e)
theorem BagOk.neI {H : Hp} {b A L : Addr} {zs : List Int} (h : BagOk H b A) (e : H L = some (.lst (zs.map V.int))) : L ≠ b := fun z => by
  obtain ⟨_, _, _, _, _, g1, _⟩ := h.ex
  rw [z, g1] at e
  cases zs with
  | nil => cases e
  | cons x r =>
    have := (List.cons.inj (HO.lst.inj (Option.some.inj e))).1
    cases this
section
variable {P : Program} {w : World} {K : PySem.W.Frag} {mg : Str → Option Value} {base : Heap} {k : Nat} {f : Addr} {fd : FuncData}
def spLaw (K : PySem.W.Frag) : Sp := fun vs H Q _ => ∃ (a : Addr) (ns : List Int), vs = [.ref a] ∧ SqL K H a (ns.map V.int) ∧ ns.length ≤ 63 ∧ ∀ H', Q (.bl true) H'
def lawS (a b : Addr) (s : List (Option V)) : L2.St := some (.ref a) :: some (.ref b) :: s
theorem ok_law {CB CK : Addr} (T : Tx mg) (B : BookC K CB) (C_Book : BMade P w K mg base k CB) (C_law_bag : Cal P w K mg base (k + 1) "_law_bag" ["script"] (spBag K)) (C_law_draw : Cal P w K mg base (k + 1) "_law_draw" ["bag", "below"] spDraw) (C_law_of : Cal P w K mg base (k + 1) "_law_of" ["bag", "some"] (spOf K))
    (C_law_mixed : Cal P w K mg base (k + 1) "_law_mixed" ["bag", "some"] (spMixed K)) (C_law_scale : Cal P w K mg base (k + 1) "_law_scale" ["bag"] spScale) (C_law_kind_on : Cal P w K mg base (k + 1) "_law_kind_on" ["bag", "scale", "pairs", "count", "reach"] spKindOn)
    (C_law_kinds_for : Cal P w K mg base (k + 1) "_law_kinds_for" ["nn", "mm", "pairs", "edge"] spKindsFor) (C_law_yielded : Cal P w K mg base (k + 1) "_law_yielded" ["ground", "grips", "edge", "cut", "way"] (spYield K CB CK)) (C_law_kinds_told : Cal P w K mg base (k + 1) "_law_kinds_told" ["got", "due"] (spTold K CB CK))
    (F : Fun K "law" "law" s_law f fd) : FnOk P w K mg base CX0 (k + 2) f fd ["script"] (spLaw K) := by
  refine F.ok sc_law (fun vs H Q E h => ?_) (fun cdv A outer s H vs Q E hr h => ?_)
  · obtain ⟨_, _, rfl, _⟩ := h
    rfl
  · obtain ⟨a, ns, rfl, hS, hl, q⟩ := h
    refine ⟨_, PSs.nox (pss_cons (ps_set (i := 1) sc_law.nd rfl (.inr rfl) (pe_u C_law_bag hr (pa_cons (pv 0) pa_nil)))
    (pss_cons (ps_for PassesOwn.never rfl (pi_range1 rfl T.b_range (pa_cons pe_int pa_nil)) (pg_name (i := 2) sc_law.nd rfl (.inl rfl))
      (pss_cons (ps_par3 (i := 3) (j := 4) (l := 5) rfl sc_law.nd rfl rfl rfl (by decide) (by decide) (by decide) rfl rfl rfl (pa_cons (pe_u C_law_scale hr (pa_cons (pv 1) pa_nil)) (pa_cons (pe_u C_law_of hr (pa_cons (pv 1) (pa_cons (pe_lst (pa_cons pe_int (pa_cons pe_int (pa_cons pe_int (pa_cons pe_int (pa_cons pe_int (pa_cons pe_int (pa_cons pe_int pa_nil)))))))) pa_nil))) (pa_cons (pe_op op_add pe_int (pe_u C_law_draw hr (pa_cons (pv 1) (pa_cons pe_int pa_nil)))) pa_nil))) (by rfl))
    (pss_cons (ps_asg (pv 3) (pg_tup (by rfl) (pgs_cons (pg_name (i := 6) sc_law.nd rfl (.inr rfl)) (pgs_cons (pg_name (i := 7) sc_law.nd rfl (.inr rfl)) pgs_nil))))
    (pss_cons (ps_set (i := 8) sc_law.nd rfl (.inl rfl) (pe_u C_law_kind_on hr (pa_cons (pv 1) (pa_cons (pv 3) (pa_cons (pv 4) (pa_cons (pv 5) (pa_cons (pe_u C_law_of hr (pa_cons (pv 1) (pa_cons (pe_lst (pa_cons pe_int (pa_cons pe_int (pa_cons pe_int (pa_cons pe_int pa_nil))))) pa_nil))) pa_nil)))))))
    (pss_cons (ps_par (i := 9) (j := 10) rfl sc_law.nd rfl rfl (by decide) rfl rfl (pa_cons (pe_callTy call_list_of (by rfl) T.b_list (by decide +kernel) (pa_cons (pe_ix ix_A (pv 8) pe_int (fun _ _ => rfl)) pa_nil)) (pa_cons (pe_cmpR op_eq (pe_u C_law_draw hr (pa_cons (pv 1) (pa_cons pe_int pa_nil))) pe_int (nomark _)) pa_nil)) (by rfl))
    (pss_cons (ps_cut (ps_if (pt_truth (pv 10) (by intro _; rfl)) (pss_cons (ps_set (i := 11) sc_law.nd rfl (.inl rfl) (pe_u C_law_draw hr (pa_cons (pv 1) (pa_cons (pe_callB call_len_seq (by rfl) T.b_len PySem.boot_len (pa_cons (pv 9) pa_nil)) pa_nil))))
    (pss_one (ps_asg (pe_op op_add (pe_ix ix_A (pv 9) (pv 11) (fun _ _ => rfl)) pe_int) (pg_sub (pv 9) (pv 11) set_list)))) pss_nil))
    (pss_cons (ps_cut (ps_set (i := 12) sc_law.nd rfl (.inl rfl) (pe_ifExp (pt_truth (pv 10) (by intro _; rfl)) (pe_lst pa_nil) (pe_u C_law_kinds_for hr (pa_cons (pv 6) (pa_cons (pv 7) (pa_cons (pv 4) (pa_cons (pe_ix ix_A (pv 8) pe_int (fun _ _ => rfl)) pa_nil))))))))
    (pss_cons (ps_cut (ps_setLc (i := 13) (own := [("one", 19)]) (g := gName 19) rfl sc_law.nd rfl rfl (sw_true rfl rfl rfl (by decide +kernel)) (pi_seq (pe_u C_law_mixed hr (pa_cons (pv 1) (pa_cons (pv 9) pa_nil)))) (blkOk_by (own := [("one", 19)]) (N := N_law) (sc := defScope s_law) (by decide +kernel)) (fun _ _ _ _ _ => pg_name (i := 19) sc_law.nd rfl (.inl rfl)) (fun _ _ _ _ _ => pts_nil) (fun _ _ _ _ _ => (pe_op op_add (pv 19) (pe_op op_mul (pv 7) (pe_op op_sub (pe_u C_law_draw hr (pa_cons (pv 1) (pa_cons pe_int pa_nil))) pe_int))))))
    (pss_cons (ps_par (i := 14) (j := 15) rfl sc_law.nd rfl rfl (by decide) rfl rfl (pa_cons (pe_callTy call_list_of (by rfl) T.b_list (by decide +kernel) (pa_cons (pv 13) pa_nil)) (pa_cons (pe_book C_Book hr (pa_cons (pv 6) (pa_cons (pv 7) pa_nil))) pa_nil)) (by rfl))
    (pss_cons (ps_cut (ps_set (i := 16) sc_law.nd rfl (.inl rfl) (pe_and (pe_not (pv 10)) (pe_and (pe_cmpR op_eq (pv 4) pe_int (nomark _)) (pe_and (pe_cmpR op_eq (pv 7) pe_int (nomark _)) (pe_one (pe_cmpR (op_eqD (by exact hr.units)) (pe_lc (own := [("one", 19)]) (g := gName 19) rfl sc_law.nd (pi_seq (pv 9)) (blkOk_by (own := [("one", 19)]) (N := N_law) (sc := defScope s_law) (by decide +kernel)) (fun _ _ _ _ _ => pg_name (i := 19) sc_law.nd rfl (.inl rfl)) (fun _ _ _ _ _ => (pts_one (pt_cmpR op_ne (pe_op op_add (pv 19) (pv 6)) pe_int (nomark _)))) (fun _ _ _ _ _ => (pv 19))) (pe_lst pa_nil) (nomark _))))))))
    (pss_cons (ps_set (i := 17) sc_law.nd rfl (.inl rfl) (pe_u C_law_yielded hr (pa_cons (pv 15) (pa_cons (pv 4) (pa_cons (pv 13) (pa_cons (pe_ifExp (pt_truth (pv 16) (by intro _; rfl)) pe_int pe_int) (pa_cons (pe_u C_law_draw hr (pa_cons (pv 1) (pa_cons pe_int pa_nil))) pa_nil)))))))
    (pss_cons (ps_if (PW.pt (pw_or (pt_not (pt_val (pe_u C_law_kinds_told hr (pa_cons (pv 17) (pa_cons (pv 12) pa_nil))))) (pw_or1 (pt_cmpR (op_neD (by exact hr.units)) (pv 13) (pv 14) (nomark _))))) (pss_one (ps_ret pe_bl)) pss_nil)
    (pss_one (ps_for PassesOwn.never rfl (pi_seq (pe_lst (pa_cons pe_int (pa_cons pe_int (pa_cons (pe_u C_law_draw hr (pa_cons (pv 1) (pa_cons pe_int pa_nil))) (pa_cons (pe_callB call_len_seq (by rfl) T.b_len PySem.boot_len (pa_cons (pv 12) pa_nil)) pa_nil)))))) (pg_name (i := 18) sc_law.nd rfl (.inl rfl))
      (pss_one (ps_if (pt_not (pt_val (pe_u C_law_kinds_told hr (pa_cons (pe_u C_law_yielded hr (pa_cons (pv 15) (pa_cons (pv 4) (pa_cons (pv 13) (pa_cons (pv 18) (pa_cons pe_int pa_nil)))))) (pa_cons (pe_slice sl_list (pv 12) po_none (po_some (pv 18))) pa_nil))))) (pss_one (ps_ret pe_bl)) pss_nil))))))))))))))))
    (pss_one (ps_ret pe_bl)))), ?_⟩
    refine ⟨_, rfl, a, ns, rfl, hS, hl, fun b Ab H1 e1 hb1 => ?_⟩
    dsimp only [tNext, tSeq, gName, tAsg, tRet]
    refine ⟨3, rfl, by decide, by decide, ?_⟩
    refine for_range (lo := 0) (n := 3) (fun i σ H' => BagOk H' b Ab ∧ ∃ s2 s3 s4 s5 s6 s7 s8 s9 s10 s11 s12 s13 s14 s15 s16 s17 s18, σ = [some (.ref a), some (.ref b), s2, s3, s4, s5, s6, s7, s8, s9, s10, s11, s12, s13, s14, s15, s16, s17, s18, none])
      ⟨hb1, _, _, _, _, _, _, _, _, _, _, _, _, _, _, _, _, _, rfl⟩ (fun i σ H2 hi pv => ?_) fun σ H2 pv => ?_
    · obtain ⟨hb2, s2, s3, s4, s5, s6, s7, s8, s9, s10, s11, s12, s13, s14, s15, s16, s17, s18, rfl⟩ := pv
      clear e1 hb1 hi
      -- scale, pairs, count
      refine ⟨_, rfl, b, Ab, rfl, hb2, fun sc nn mm H3 hb3 k3 nsc hsc hn hm => ?_⟩
      refine ⟨_, rfl, (by show 7 ≤ sizeLine; decide), fun L1 hL1 => ?_⟩
      refine spOf_l (hb3.same (Same.new hL1)) upd_same (hb3.ne hL1) ⟨by show 0 < 7; decide, by show 7 ≤ 1000000; decide⟩ fun x H4 hx hb4 k4 => ?_
      obtain ⟨h, rfl, hh⟩ : ∃ h : Int, x = V.int h ∧ (0 ≤ h ∧ h ≤ 5) := by
        rcases List.mem_cons.mp hx with rfl | hx
        · exact ⟨1, rfl, by decide⟩
        rcases List.mem_cons.mp hx with rfl | hx
        · exact ⟨2, rfl, by decide⟩
        rcases List.mem_cons.mp hx with rfl | hx
        · exact ⟨1, rfl, by decide⟩
        rcases List.mem_cons.mp hx with rfl | hx
        · exact ⟨0, rfl, by decide⟩
        rcases List.mem_cons.mp hx with rfl | hx
        · exact ⟨3, rfl, by decide⟩
        rcases List.mem_cons.mp hx with rfl | hx
        · exact ⟨2, rfl, by decide⟩
        · obtain rfl := List.mem_singleton.mp hx
          exact ⟨5, rfl, by decide⟩
      clear hx
      refine ⟨_, rfl, b, Ab, 5, rfl, hb4, ⟨by decide, by decide⟩, fun d5 H5 d0 d1 hb5 k5 => ⟨_, _, rfl, rfl, _, _, _, rfl, ?_⟩⟩
      obtain ⟨c, hc⟩ : ∃ c : Nat, 1 + d5 = (c : Int) := ⟨(1 + d5).toNat, by omega⟩
      have hc15 : 1 ≤ c ∧ c ≤ 5 := by omega
      have nscb : sc ≠ b := fun z => by
        obtain ⟨_, _, _, _, _, g1, _⟩ := hb3.ex
        rw [z, g1] at hsc
        cases hsc
      have hsc5 := k5 _ _ nscb (k4 _ _ nscb (Same.new (o := HO.lst [V.int 1, V.int 2, V.int 1, V.int 0, V.int 3, V.int 2, V.int 5]) hL1 _ _ hsc))
      refine ⟨_, rfl, sc, _, rfl, SqT.of hsc5, rfl, _, _, rfl, _, _, rfl, rfl, ?_⟩
      -- kd
      refine ⟨_, rfl, _, rfl, _, rfl, _, rfl, _, rfl, (by show 4 ≤ sizeLine; decide), fun L2 hL2 => ?_⟩
      refine spOf_l (hb5.same (Same.new hL2)) upd_same (hb5.ne hL2) ⟨by show 0 < 4; decide, by show 4 ≤ 1000000; decide⟩ fun x H6 hx hb6 k6 => ?_
      obtain ⟨rch, rfl, hrc⟩ : ∃ h : Int, x = V.int h ∧ (0 ≤ h ∧ h ≤ 9) := by
        rcases List.mem_cons.mp hx with rfl | hx
        · exact ⟨2, rfl, by decide⟩
        rcases List.mem_cons.mp hx with rfl | hx
        · exact ⟨1, rfl, by decide⟩
        rcases List.mem_cons.mp hx with rfl | hx
        · exact ⟨0, rfl, by decide⟩
        · obtain rfl := List.mem_singleton.mp hx
          exact ⟨9, rfl, by decide⟩
      clear hx
      have hsc6 := k6 _ _ nscb (Same.new (o := HO.lst [V.int 2, V.int 1, V.int 0, V.int 9]) hL2 _ _ hsc5)
      refine ⟨b, Ab, sc, nn, mm, h, rch, c, (by rw [← hc]; rfl), hb6, hsc6, hn, hm, hh, hc15, hrc, fun t te H7 rs u v x hb7 k7 ht hte rl rp rri rsum rb => ?_⟩
      clear hsc6 hsc5 hL1 hL2 hb6 hb5 hb4 hb3 hb2 k3 k4 k5 k6 k7 hsc nsc
      -- edge, broken
      refine ⟨_, rfl, rix_A (sqA_t ht) rfl ⟨te, _, rfl, .inr (SqT.of hte), fun Le hLe => ?_⟩⟩
      have nLe := hb7.ne hLe
      have hb8 := hb7.same (Same.new (o := HO.lst (rs.map V.int)) hLe)
      have ht8 := Same.new (o := HO.lst (rs.map V.int)) hLe _ _ ht
      have hte8 := Same.new (o := HO.lst (rs.map V.int)) hLe _ _ hte
      have hLe8 : upd H7 Le (.lst (rs.map V.int)) Le = some (.lst (rs.map V.int)) := upd_same
      have nteb : te ≠ b := fun z => by
        obtain ⟨_, _, _, _, _, g1, _⟩ := hb7.ex
        rw [z, g1] at hte
        cases hte
      have ntb : t ≠ b := fun z => by
        obtain ⟨_, _, _, _, _, g1, _⟩ := hb7.ex
        rw [z, g1] at ht
        cases ht
      revert hb8 ht8 hte8 hLe8
      generalize upd H7 Le (.lst (rs.map V.int)) = H8
      intro hb8 ht8 hte8 hLe8
      refine ⟨_, rfl, b, Ab, 5, rfl, hb8, ⟨by decide, by decide⟩, fun d5' H9 _ _ hb9 k9 => ⟨rfl, _, _, rfl, ?_⟩⟩
      have ht9 := k9 _ _ ntb ht8
      have hte9 := k9 _ _ nteb hte8
      have hLe9 := k9 _ _ nLe hLe8
      have nAL : Ab ≠ Le := by
        obtain ⟨_, _, _, _, _, _, _, g3, _⟩ := hb7.ex
        exact ne_of_none g3 hLe
      clear hLe hb8 ht8 hte8 hLe8 k9 hb7 ht hte
      rw [decI]
      generalize decide (d5' = 0) = br
      refine ⟨fun σ H' => BagOk H' b Ab ∧ H' t = some (.tup [.int nn, .int mm, .int h, .ref te, u, v, x]) ∧ H' te = some (.tup (rs.map V.int)) ∧ ∃ es s11, EdgeRel br rs es ∧ H' Le = some (.lst (es.map V.int)) ∧ σ = [some (.ref a), some (.ref b), some (.int (0 + (i : Int))), some (.ref sc), some (.int h), some (.int (1 + d5)), some (.int nn), some (.int mm), some (.ref t), some (.ref Le), some (.bl br), s11, s12, s13, s14, s15, s16, s17, s18, none], ?_, ?_⟩
      · refine ⟨_, rfl, _, rfl, ?_⟩
        cases br with
        | false =>
          exact iteF ⟨hb9, ht9, hte9, rs, s11, ⟨rfl, fun e he => by have := rb e he; omega, (fun z => by cases z), fun _ => rfl⟩, hLe9, rfl⟩
        | true =>
          refine iteT ?_
          refine ⟨_, rfl, _, rfl, Le, _, rfl, .inl (SqL.of hLe9), b, Ab, _, rfl, hb9, ⟨?_, ?_⟩, fun sp H10 s0 s1 hb10 k10 => ?_⟩
          · rw [List.length_map]
            omega
          · rw [List.length_map]
            omega
          rw [List.length_map] at s1
          have hLe10 := k10 _ _ nLe hLe9
          have hj : sp.toNat < rs.length := by omega
          have a0 := at_getD (rs := rs) hj
          rw [show ((sp.toNat : Nat) : Int) = sp by omega] at a0
          refine ⟨_, rfl, _, rfl, rix_A (sqA_l hLe10) a0 ⟨_, _, rfl, rfl, ?_⟩⟩
          have ixe : ixN (rs.map V.int).length sp = some sp.toNat := by
            unfold ixN
            rw [List.length_map, if_pos s0, if_pos s1]
          refine ⟨_, rfl, _, rfl, Le, _, sp, sp.toNat, rfl, rfl, hLe10, ixe, ?_⟩
          have ge : rs.getD sp.toNat 0 = rs[sp.toNat] := by rw [List.getD_eq_getElem?_getD, List.getElem?_eq_getElem hj]; rfl
          obtain ⟨ib, cb, blb, nb, cells, g1, g2, g3, g4⟩ := hb10.ex
          refine ⟨⟨ib, cb, blb, nb, cells, by rw [upd_ne nLe.symm]; exact g1, g2, by rw [upd_ne nAL]; exact g3, g4⟩, ?_, ?_, rs.set sp.toNat (rs[sp.toNat] + 1), _, edge_set hj rb, ?_, rfl⟩
          · rw [upd_ne (fun z => by rw [z, hLe9] at ht9; cases ht9)]
            exact k10 _ _ ntb ht9
          · rw [upd_ne (fun z => by rw [z, hLe9] at hte9; cases hte9)]
            exact k10 _ _ nteb hte9
          · rw [upd_same, ge, List.map_set]
      rintro σ1 H10 ⟨hb10, ht10, hte10, es, s11', er, hLe10, rfl⟩
      clear hb9 ht9 hte9 hLe9
      obtain ⟨rs', pr, ps', rri', bnd, br0, br1⟩ := edge_rel hn hm hh (by omega) rp rri rsum er
      have m0 : 0 ≤ mm := by omega
      have esl : es.length ≤ 5 := by rw [er.1]; omega
      -- due
      refine ⟨fun σ H' => BagOk H' b Ab ∧ H' Le = some (.lst (es.map V.int)) ∧ ∃ Ld ts, Ld ≠ b ∧ H' Ld = some (.lst (ts.map V.ref)) ∧ AllR (TupR nn mm) H' ts (dueK nn mm h rs') ∧ σ = [some (.ref a), some (.ref b), some (.int (0 + (i : Int))), some (.ref sc), some (.int h), some (.int (1 + d5)), some (.int nn), some (.int mm), some (.ref t), some (.ref Le), some (.bl br), s11', some (.ref Ld), s13, s14, s15, s16, s17, s18, none], ?_, ?_⟩
      · refine ⟨_, rfl, _, rfl, ?_⟩
        cases br with
        | true =>
          refine iteT ⟨(by show 0 ≤ sizeLine; decide), fun Ld hLd => ?_⟩
          refine ⟨hb10.same (Same.new hLd), Same.new hLd _ _ hLe10, Ld, [], hb10.ne hLd, upd_same, ?_, rfl⟩
          rw [(due_nil (br1 rfl)).2]
          trivial
        | false =>
          obtain ⟨rfl, _⟩ := br0 rfl
          refine iteF ?_
          refine ⟨_, rfl, _, rfl, _, rfl, _, rfl, rix_A (sqA_t ht10) rfl ⟨te, nn, mm, h, rs', rfl, hte10, by omega, ⟨by omega, by omega⟩, m0, ⟨by omega, by omega⟩, rp, rri, rsum, Nat.le_trans (g1_le hn hm bnd.r) (by decide), fun Ld H' ts e nLd hLd ak => ?_⟩⟩
          rw [law_due hn.1 hh.1 rsum] at ak
          exact ⟨hb10.same e, e _ _ hLe10, Ld, ts, hb10.ne nLd, hLd, ak, rfl⟩
      rintro σ2 H11 ⟨hb11, hLe11, Ld, ts, nLd, hLd11, ak11, rfl⟩
      clear hb10 ht10 hte10 hLe10
      -- handed
      refine ⟨fun σ H' => BagOk H' b Ab ∧ H' Le = some (.lst (es.map V.int)) ∧ H' Ld = some (.lst (ts.map V.ref)) ∧ AllR (TupR nn mm) H' ts (dueK nn mm h rs') ∧ ∃ (Lh : Addr) (hs ms : List Int), ms.Perm es ∧ hs.map (red' mm) = ms.map (red' mm) ∧ hs.length ≤ 5 ∧ H' Lh = some (.lst (hs.map V.int)) ∧ σ = [some (.ref a), some (.ref b), some (.int (0 + (i : Int))), some (.ref sc), some (.int h), some (.int (1 + d5)), some (.int nn), some (.int mm), some (.ref t), some (.ref Le), some (.bl br), s11', some (.ref Ld), some (.ref Lh), s14, s15, s16, s17, s18, none], ?_, ?_⟩
      · refine ⟨_, rfl, _, rfl, b, Ab, Le, es, rfl, hb11, .inl hLe11, by omega, nLe, fun Lm Hm ms pm nLm hLm hbm km => ⟨Lm, rfl, .inl ⟨⟨_, SqL.of hLm⟩, fun D hD => ?_⟩⟩⟩
        have msl : ms.length ≤ 5 := by rw [pm.length_eq]; exact esl
        obtain ⟨_, _, _, _, _, hbmb, _, hAm, _⟩ := hbm.ex
        have nDb : D ≠ b := (ne_of_none hbmb hD).symm
        have nAD : Ab ≠ D := ne_of_none hAm hD
        have nLmb : Lm ≠ b := fun z => by
          have := hb11.ne nLm
          exact this z
        refine lc_list (K := K) (a := Lm) (xs := ms.map V.int) (fun j H' => BagOk H' b Ab ∧ (∀ x o, x ≠ b → x ≠ D → Hm x = some o → H' x = some o) ∧ ∃ hs : List Int, hs.length = j ∧ H' D = some (.lst (hs.map V.int)) ∧ hs.map (red' mm) = (ms.take j).map (red' mm)) ?_ (fun j H' _ pv => SqL.of (pv.2.1 _ _ nLmb (ne_of_none hLm hD) hLm)) (fun j x H' hx pv => ⟨rfl, ?_⟩) fun H' pv => ?_
        · refine ⟨?_, fun x o n1 n2 e => by rw [upd_ne n2]; exact e, [], rfl, upd_same, rfl⟩
          obtain ⟨ib, cb, blb, nb, cells, g1, g2, g3, g4⟩ := hbm.ex
          exact ⟨ib, cb, blb, nb, cells, by rw [upd_ne nDb.symm]; exact g1, g2, by rw [upd_ne nAD]; exact g3, g4⟩
        · unfold tYes
          refine iteT ?_
          obtain ⟨hb', kk, hs, hsl, hD', hred⟩ := pv
          rw [List.getElem?_map] at hx
          obtain ⟨z, hz, rfl⟩ := Option.map_eq_some_iff.mp hx
          have hj : j < ms.length := by
            rcases Nat.lt_or_ge j ms.length with g | g
            · exact g
            · rw [List.getElem?_eq_none g] at hz
              cases hz
          refine ⟨_, rfl, _, rfl, _, rfl, b, Ab, 5, rfl, hb', ⟨by decide, by decide⟩, fun d H'' d0' d1' hb'' k'' => ⟨_, _, rfl, rfl, _, _, rfl, rfl, .inl ⟨by omega, by omega⟩, _, _, rfl, rfl, ?_⟩⟩
          refine ⟨_, k'' _ _ nDb hD', ?_, ?_, fun x o n1 n2 e => ?_, hs ++ [z + mm * (d - 2)], ?_, ?_, ?_⟩
          · rw [List.length_map]
            exact small1000 (by omega)
          · obtain ⟨ib, cb, blb, nb, cells, g1, g2, g3, g4⟩ := hb''.ex
            exact ⟨ib, cb, blb, nb, cells, by rw [upd_ne nDb.symm]; exact g1, g2, by rw [upd_ne nAD]; exact g3, g4⟩
          · rw [upd_ne n2]
            exact k'' _ _ n1 (kk _ _ n1 n2 e)
          · rw [List.length_append, hsl]
            rfl
          · rw [upd_same, List.map_append]
            rfl
          · rw [List.map_append, List.take_add_one, hz, List.map_append, hred]
            show _ ++ [red' mm (z + mm * (d - 2))] = _ ++ [red' mm z]
            rw [show red' mm (z + mm * (d - 2)) = red' mm z by
              unfold red'
              split
              · rename_i e0
                rw [e0, Int.zero_mul, Int.add_zero]
              · exact Int.add_mul_emod_self_left ..]
        · obtain ⟨hb', kk, hs, hsl, hD', hred⟩ := pv
          rw [List.length_map] at hsl hred
          rw [List.take_length] at hred
          have kk2 : ∀ x o, x ≠ b → H11 x = some o → H' x = some o := fun x o n e => kk _ _ n (ne_of_none (km _ _ n e) hD) (km _ _ n e)
          obtain ⟨_, _, _, _, _, hb11b, _⟩ := hb11.ex
          refine ⟨hb', kk2 _ _ nLe hLe11, kk2 _ _ nLd hLd11, ak11.imp fun _ _ z => tupR_k nn mm _ _ _ _ _ _ hb11b kk2 z, D, hs, ms, pm, hred, by omega, hD', rfl⟩
      rintro σ3 H12 ⟨hb12, hLe12, hLd12, ak12, Lh, hs, ms, pm, hred, hsl, hLh12, rfl⟩
      clear hb11 hLe11 hLd11 ak11
      have yi := yin_of (br := br) bnd pm hred pr ps' rri'
      -- kept, ground
      refine ⟨_, rfl, Lh, _, rfl, .inl (SqL.of hLh12), fun Lk hLk => ?_⟩
      refine ⟨_, rfl, _, rfl, ?_⟩
      intro y dy hy hdy ney
      refine ⟨y, dy, nn, mm, rfl, upd_same, hn, hm, rfl, _, _, rfl, ?_⟩
      have e13 : Same H12 (upd (upd (upd (upd H12 Lk (.lst (hs.map V.int))) dy (.own y)) y (.ins CB dy [])) y (.ins CB dy (bf nn mm))) := fun x o e => by
        have e' := Same.new (o := HO.lst (hs.map V.int)) hLk _ _ e
        rw [upd_ne (ne_of_none e' hy), upd_ne (ne_of_none e' hy), upd_ne (ne_of_none e' hdy)]
        exact e'
      have hLk13 : (upd (upd (upd (upd H12 Lk (.lst (hs.map V.int))) dy (.own y)) y (.ins CB dy [])) y (.ins CB dy (bf nn mm))) Lk = some (.lst (hs.map V.int)) := by
        have e' : upd H12 Lk (.lst (hs.map V.int)) Lk = some (.lst (hs.map V.int)) := upd_same
        rw [upd_ne (ne_of_none e' hy), upd_ne (ne_of_none e' hy), upd_ne (ne_of_none e' hdy)]
        exact e'
      have hbk13 : IsBook CB (upd (upd (upd (upd H12 Lk (.lst (hs.map V.int))) dy (.own y)) y (.ins CB dy [])) y (.ins CB dy (bf nn mm))) y nn mm := ⟨dy, upd_same⟩
      revert e13 hLk13 hbk13
      generalize upd (upd (upd (upd H12 Lk (.lst (hs.map V.int))) dy (.own y)) y (.ins CB dy [])) y (.ins CB dy (bf nn mm)) = H13
      intro e13 hLk13 hbk13
      clear hy hdy ney hLk
      have hb13 := hb12.same e13
      have hLe13 := e13 _ _ hLe12
      have hLd13 := e13 _ _ hLd12
      have hLh13 := e13 _ _ hLh12
      have ak13 : AllR (TupR nn mm) H13 ts (dueK nn mm h rs') := ak12.imp fun _ _ z => tupR_s nn mm _ _ _ _ e13 z
      clear hb12 hLe12 hLd12 hLh12 ak12 e13
      -- endless
      refine ⟨fun σ H' => Same H13 H' ∧ σ = [some (.ref a), some (.ref b), some (.int (0 + (i : Int))), some (.ref sc), some (.int h), some (.int (1 + d5)), some (.int nn), some (.int mm), some (.ref t), some (.ref Le), some (.bl br), s11', some (.ref Ld), some (.ref Lh), some (.ref Lk), some (.ref y), some (.bl (endl nn mm h rs')), s17, s18, none], ?_, ?_⟩
      · refine ⟨_, rfl, br, rfl, _, rfl, ?_⟩
        cases br with
        | true =>
          refine iteF ?_
          rw [(due_nil (br1 rfl)).1]
          exact ⟨Same.refl _, rfl⟩
        | false =>
          refine iteT ?_
          obtain ⟨rfl, _⟩ := br0 rfl
          obtain rfl : es = rs' := er.2.2.2 rfl
          refine ⟨_, rfl, rfl, _, rfl, ?_⟩
          rw [decI]
          by_cases h1 : h = 1
          · rw [decide_eq_true h1]
            refine iteT ?_
            refine ⟨_, rfl, rfl, _, rfl, ?_⟩
            rw [decI]
            by_cases hm0 : mm = 0
            · rw [decide_eq_true hm0]
              refine iteT ?_
              refine tlc_filt (K := K) (xs := es.map V.int) (onB fun z => !decide (z + nn = 0)) (fun R r => ⟨_, rfl, r Le _ (Same.refl _) (sqA_l hLe13)⟩) (len1000 (by omega)) (fun _ => rfl) (fun x hx H1 e1 Q' q' => ?_) (fun x hx H1 Q' q' => ⟨_, rfl, q'⟩) fun D2 H14 e14 hD2 h14 => ?_
              · obtain ⟨z, _, rfl⟩ := List.mem_map.mp hx
                refine ⟨_, rfl, _, rfl, _, _, rfl, rfl, rfl, _, rfl, ?_⟩
                rw [decI]
                exact q' _ (Same.refl _)
              · rw [filt_onB] at h14
                refine ⟨(by show 0 ≤ sizeLine; decide), fun Z hZ => ?_⟩
                refine rd_eqI (m := []) (SqL.of (Same.new hZ _ _ h14)) (SqL.of upd_same) ?_
                rw [show decide ((es.filter fun z => !decide (z + nn = 0)) = []) = endl nn mm h es by
                  unfold endl
                  rw [decide_eq_true hm0, decide_eq_true h1, Bool.true_and, Bool.true_and, Bool.eq_iff_iff, decide_eq_true_iff, List.filter_eq_nil_iff, List.all_eq_true]
                  constructor
                  · intro g r hr'
                    have := g r hr'
                    rw [Bool.not_eq_true', decide_eq_false_iff_not] at this
                    exact decide_eq_true (by omega)
                  · intro g r hr'
                    have := of_decide_eq_true (g r hr')
                    rw [Bool.not_eq_true', decide_eq_false_iff_not]
                    omega]
                exact ⟨e14.trans (Same.new hZ), rfl⟩
            · rw [decide_eq_false hm0]
              refine iteF ?_
              rw [show endl nn mm h es = false by unfold endl; rw [decide_eq_false hm0]; rfl]
              exact ⟨Same.refl _, rfl⟩
          · rw [decide_eq_false h1]
            refine iteF ?_
            rw [show endl nn mm h es = false by unfold endl; rw [decide_eq_false h1, Bool.false_and, Bool.and_false]]
            exact ⟨Same.refl _, rfl⟩
      rintro σ4 H14 ⟨e14, rfl⟩
      have hb14 := hb13.same e14
      have hLd14 := e14 _ _ hLd13
      have hLh14 := e14 _ _ hLh13
      have hLk14 := e14 _ _ hLk13
      have hbk14 := hbk13.same e14
      have ak14 : AllR (TupR nn mm) H14 ts (dueK nn mm h rs') := ak13.imp fun _ _ z => tupR_s nn mm _ _ _ _ e14 z
      clear hb13 hLe13 hLd13 hLh13 hLk13 hbk13 ak13 e14
      have dl := due_len bnd
      have told_ok : ∀ kd ∈ dueK nn mm h rs', TxtOk nn mm kd ∧ kd.rs ≠ [] ∧ SgnOk kd := fun kd hk => due_ok bnd hk
      have facts : ∀ H', Keeps b H14 H' → H' Ld = some (.lst (ts.map V.ref)) ∧ H' Lh = some (.lst (hs.map V.int)) ∧ H' Lk = some (.lst (hs.map V.int)) ∧ IsBook CB H' y nn mm ∧ AllR (TupR nn mm) H' ts (dueK nn mm h rs') := fun H' k => by
        obtain ⟨_, _, _, _, _, gb, _⟩ := hb14.ex
        obtain ⟨dyy, hyy⟩ := hbk14
        exact ⟨k _ _ nLd hLd14, k _ _ (hb14.neI hLh14) hLh14, k _ _ (hb14.neI hLk14) hLk14, ⟨dyy, k _ _ (ne_dk hyy gb) hyy⟩, ak14.imp fun _ _ z => tupR_k nn mm _ _ _ _ _ _ gb k z⟩
      -- got
      refine ⟨_, rfl, _, rfl, _, rfl, _, rfl, _, rfl, ?_⟩
      refine ifT ?_
      refine ⟨_, rfl, b, Ab, 3, rfl, hb14, ⟨by decide, by decide⟩, fun dw H15 w0 w1 hb15 k15 => ?_⟩
      obtain ⟨hLd15, hLh15, hLk15, hbk15, ak15⟩ := facts H15 k15
      refine ⟨y, Lh, nn, mm, h, dw, _, hs, rs', dueK nn mm h rs', ?_, hbk15, .inl hLh15, yi, yout1 bnd (by omega), fun Lg H16 xs e16 hg hLg ak => ?_⟩
      · cases endl nn mm h rs' <;> rfl
      have k16 := k15.trans (Same.keeps e16)
      obtain ⟨hLd16, hLh16, hLk16, hbk16, ak16⟩ := facts H16 k16
      refine ⟨_, rfl, _, rfl, Lg, Ld, nn, mm, xs, ts, dueK nn mm h rs', rfl, hLg, hLd16, ak, ak16, by omega, told_ok, fun H17 e17 => ⟨_, rfl, iteF ?_⟩⟩
      have k17 := k16.trans (Same.keeps e17)
      obtain ⟨hLd17, hLh17, hLk17, hbk17, ak17⟩ := facts H17 k17
      have hb17 := (hb15.same e16).same e17
      refine ⟨_, rfl, _, rfl, rd_neI (SqL.of hLh17) (SqL.of hLk17) ⟨_, rfl, ?_⟩⟩
      rw [decide_eq_true rfl]
      refine iteF ?_
      clear hb15 k15 hg hLg ak e16 e17 hLd15 hLh15 hLk15 hbk15 ak15 hLd16 hLh16 hLk16 hbk16 ak16 k16
      -- the cuts
      dsimp only [tNext, tSeq, gName, tAsg, tRet]
      refine for_I (K := K) (ι := Nat) (xs := fun d => [V.int 0, V.int 1, V.int (d : Int), V.int ((dueK nn mm h rs').length : Int)])
        (fun d Lc H' => d ≤ 6 ∧ BagOk H' b Ab ∧ Keeps b H14 H' ∧ H' Lc = some (.lst [V.int 0, V.int 1, V.int (d : Int), V.int ((dueK nn mm h rs').length : Int)]))
        (fun d Lc Hc j σ' H' => Same Hc H' ∧ ∃ s18, σ' = [some (.ref a), some (.ref b), some (.int (0 + (i : Int))), some (.ref sc), some (.int h), some (.int (1 + d5)), some (.int nn), some (.int mm), some (.ref t), some (.ref Le), some (.bl br), s11', some (.ref Ld), some (.ref Lh), some (.ref Lk), some (.ref y), some (.bl (endl nn mm h rs')), some (.ref Lg), s18, none])
        (fun R r => ?_) (fun d Lc H1 e => sqA_l e.2.2.2) (fun d Lc H1 e => ⟨Same.refl _, _, rfl⟩) (fun d Lc H1 e j σ' H' pv x hx => pv.1 _ _ hx) (fun d Lc Hc e j x σ' H' hx pv => ?_) (fun d Lc Hc e σ' H' pv => ?_)
      · refine ⟨_, rfl, b, Ab, 7, rfl, hb17, ⟨by decide, by decide⟩, fun d H18 w0' w1' hb18 k18 => ?_⟩
        obtain ⟨dn, rfl⟩ : ∃ dn : Nat, d = (dn : Int) := ⟨d.toNat, by omega⟩
        obtain ⟨hLd18, _, _, _, ak18⟩ := facts H18 (k17.trans k18)
        refine ⟨_, rfl, Ld, _, rfl, .inl (SqL.of hLd18), ?_⟩
        rw [List.length_map, ak18.len]
        exact ⟨(by show 4 ≤ sizeLine; decide), fun Lc hLc => r dn Lc _ ⟨by omega, hb18.same (Same.new hLc), (k17.trans k18).trans (Same.keeps (Same.new hLc)), upd_same⟩⟩
      · obtain ⟨ed, hbc, kc, hLc⟩ := e
        obtain ⟨es', s18', rfl⟩ := pv
        have kH := kc.trans (Same.keeps es')
        obtain ⟨cc, rfl, hcc⟩ : ∃ cc : Nat, x = V.int (cc : Int) ∧ (cc ≤ 7 ∨ cc = (dueK nn mm h rs').length) := by
          have hxm := List.mem_of_getElem? hx
          rcases List.mem_cons.mp hxm with rfl | hxm
          · exact ⟨0, rfl, .inl (by decide)⟩
          rcases List.mem_cons.mp hxm with rfl | hxm
          · exact ⟨1, rfl, .inl (by decide)⟩
          rcases List.mem_cons.mp hxm with rfl | hxm
          · exact ⟨d, rfl, .inl (by omega)⟩
          · obtain rfl := List.mem_singleton.mp hxm
            exact ⟨_, rfl, .inr rfl⟩
        obtain ⟨hLdH, hLhH, hLkH, hbkH, akH⟩ := facts H' kH
        refine ⟨_, rfl, _, rfl, _, rfl, _, rfl, y, Lh, nn, mm, h, 2, cc, hs, rs', (dueK nn mm h rs').take cc, rfl, hbkH, .inl hLhH, yi, yout2 bnd hcc, fun Lg2 H18 xs2 e18 hg2 hLg2 ak2 => ?_⟩
        obtain ⟨hLd18, _, _, _, ak18⟩ := facts H18 (kH.trans (Same.keeps e18))
        refine ⟨_, rfl, _, rfl, _, rfl, Ld, _, rfl, SqL.of hLd18, fun Lt hLt => ?_⟩
        rw [cut_take, ← List.map_take]
        refine ⟨Lg2, Lt, nn, mm, xs2, ts.take cc, (dueK nn mm h rs').take cc, rfl, Same.new hLt _ _ hLg2, upd_same, ak2.imp fun _ _ z => z.same (Same.new hLt), (ak18.take cc).imp fun _ _ z => tupR_s nn mm _ _ _ _ (Same.new hLt) z, ?_, fun kd hk => told_ok kd (List.mem_of_mem_take hk), fun H19 e19 => ⟨_, rfl, iteF ?_⟩⟩
        · rw [List.length_take]
          omega
        · exact ⟨es'.trans (e18.trans ((Same.new hLt).trans e19)), _, rfl⟩
      · obtain ⟨ed, hbc, kc, hLc⟩ := e
        obtain ⟨es', s18', rfl⟩ := pv
        exact ⟨hbc.same es', _, _, _, _, _, _, _, _, _, _, _, _, _, _, _, _, _, rfl⟩
    · exact q H2
end
end C53
set_option Elab.async false
set_option linter.all false
set_option maxRecDepth 100000
set_option maxHeartbeats 4000000
namespace C53
open PySem PySem.Spec PyProof.Rows L2 Ex
/-! what the head tells -/
def HasFun {K : PySem.W.Frag} {h : Heap} (_ : K.In h) (mg : Str → Option Value) (x : Str) (st : Stmt) : Prop := ∃ f fd, mg x = some (.ref f) ∧ Fun K x x st f fd
def HasBook {K : PySem.W.Frag} {h : Heap} (_ : K.In h) (mg : Str → Option Value) : Prop := ∃ C f fd, mg "Book" = some (.ref C) ∧ BookC K C ∧ InsC K C ∧ Mk K C f ∧ FunD K "__init__" "Book.__init__" (defArgs s_Book_init) (defBody s_Book_init) (defScope s_Book_init) [.int 0] [] f fd
def HasKind {K : PySem.W.Frag} {h : Heap} (_ : K.In h) (mg : Str → Option Value) : Prop := ∃ C f fd ft fdt, mg "Kind" = some (.ref C) ∧ KindC K C ∧ InsC K C ∧ Mk K C f ∧ FunKind K f fd ∧ Meth K C "text" ft ∧ Fun K "text" "Kind.text" s_Kind_text ft fdt
def HasGen {K : PySem.W.Frag} {h : Heap} (_ : K.In h) (mg : Str → Option Value) : Prop := ∃ f fd, mg "kinds_of" = some (.ref f) ∧ FunGen K f fd
theorem num_of {mg : Str → Option Value} {x : Str} {v : Value} {n : Int} (g : mg x = some v) (e : ∃ t, v = .int n t) : ∃ t, mg x = some (.int n t) := by
  obtain ⟨t, rfl⟩ := e
  exact ⟨t, g⟩
def HasTx {K : PySem.W.Frag} {h : Heap} (_ : K.In h) (mg : Str → Option Value) : Prop := Tx mg
section
variable {K : PySem.W.Frag} {f D T oT : Addr} {oc kV doc pm cdv ct : Value} {od an : Option Addr} {osl : Array (Option Value)}
theorem fund_book {tk : Tok} {T : Addr} {cT : Value} {dT : Option Addr} {nT : Nat} {sT : Array (Option Value)} (l : K.lookup f = some ⟨oc, od, .func (PySem.W.fnOf "__init__" "Book.__init__" (defArgs s_Book_init) (defBody s_Book_init) (defScope s_Book_init) (.ref T) kV doc pm an cdv ct), osl⟩) (c : PySem.W.codeIn K cdv "Book.__init__" = true) (k : PySem.W.keepIn K (.ref f) = true)
    (lT : K.lookup T = some ⟨cT, dT, .seq #[.int 0 tk] nT, sT⟩) : FunD K "__init__" "Book.__init__" (defArgs s_Book_init) (defBody s_Book_init) (defScope s_Book_init) [.int 0] [] f (PySem.W.fnOf "__init__" "Book.__init__" (defArgs s_Book_init) (defBody s_Book_init) (defScope s_Book_init) (.ref T) kV doc pm an cdv ct) :=
  ⟨⟨oc, od, .ref T, kV, doc, pm, an, cdv, ct, osl, rfl, l, c, .inr ⟨(fun z => by cases z), T, _, [.int 0 tk], nT, rfl, lT, rfl, .cons ⟨tk, rfl⟩ .nil⟩, .inl rfl⟩, k⟩
theorem fund_kind {D : Addr} (l : K.lookup f = some ⟨oc, od, .func (PySem.W.fnOf "__init__" "Kind.__init__" (defArgs s_Kind_init) (defBody s_Kind_init) (defScope s_Kind_init) .none (.ref D) doc pm an cdv ct), osl⟩) (c : PySem.W.codeIn K cdv "Kind.__init__" = true) (k : PySem.W.keepIn K (.ref f) = true)
    (n1 : PySem.W.nsIn K D "measure" = some (some .none)) (n2 : PySem.W.nsIn K D "share" = some (some .none)) (n3 : PySem.W.nsIn K D "balance" = some (some .none)) : FunKind K f (PySem.W.fnOf "__init__" "Kind.__init__" (defArgs s_Kind_init) (defBody s_Kind_init) (defScope s_Kind_init) .none (.ref D) doc pm an cdv ct) :=
  ⟨⟨oc, od, .none, .ref D, doc, pm, an, cdv, ct, osl, rfl, l, c, .inl ⟨rfl, rfl⟩, .inr ⟨D, rfl, fun q hq => by
    rcases List.mem_cons.mp hq with rfl | hq
    · exact ⟨.none, n1, rfl⟩
    rcases List.mem_cons.mp hq with rfl | hq
    · exact ⟨.none, n2, rfl⟩
    · obtain rfl := List.mem_singleton.mp hq
      exact ⟨.none, n3, rfl⟩⟩⟩, k⟩
theorem fund_gen {D : Addr} (l : K.lookup f = some ⟨oc, od, .func (PySem.W.fnOf "kinds_of" "kinds_of" (defArgs s_kinds_of) (defBody s_kinds_of) (defScope s_kinds_of) .none (.ref D) doc pm an cdv ct), osl⟩) (c : PySem.W.codeIn K cdv "kinds_of" = true) (k : PySem.W.keepIn K (.ref f) = true)
    (n1 : PySem.W.nsIn K D "most" = some (some .none)) : FunGen K f (PySem.W.fnOf "kinds_of" "kinds_of" (defArgs s_kinds_of) (defBody s_kinds_of) (defScope s_kinds_of) .none (.ref D) doc pm an cdv ct) :=
  ⟨⟨oc, od, .none, .ref D, doc, pm, an, cdv, ct, osl, rfl, l, c, .inl ⟨rfl, rfl⟩, .inr ⟨D, rfl, fun q hq => by
    obtain rfl := List.mem_singleton.mp hq
    exact ⟨.none, n1, rfl⟩⟩⟩, k⟩
end
section
variable {P : Program} {w : World} {K : PySem.W.Frag} {mg : Str → Option Value} {base : Heap} {j k : Nat} {f : Addr} {fd : FuncData} {x : Str} {ps : List Str} {sp : Sp}
theorem cal (g : mg x = some (.ref f)) (kp : PySem.W.keepIn K (.ref f) = true) (b : Binds K fd ps []) (ok : FnOk P w K mg base CX0 j f fd ps sp) (h : j ≤ k) : Cal P w K mg base k x ps sp := ⟨f, fd, g, kp, b, ok.mono h⟩

theorem law_all {K : PySem.W.Frag} {h : Heap} {mg : Str → Option Value} {fa : Addr} (X : K.In h) (G : h.Ns mainGlobals mg) (hfa : mg "law" = some (.ref fa)) (hT : HasTx X mg) (hB : HasBook X mg) (hK : HasKind X mg) (hG : HasGen X mg)
    (h_is_number : HasFun X mg "is_number" s_is_number)
    (h_reduced : HasFun X mg "reduced" s_reduced)
    (h_divides : HasFun X mg "divides" s_divides)
    (h_has_balance : HasFun X mg "has_balance" s_has_balance)
    (h_some_odd_rim : HasFun X mg "some_odd_rim" s_some_odd_rim)
    (h_rims_stand : HasFun X mg "rims_stand" s_rims_stand)
    (h_due_sum : HasFun X mg "due_sum" s_due_sum)
    (h_sum_stands : HasFun X mg "sum_stands" s_sum_stands)
    (h_measure_stands : HasFun X mg "measure_stands" s_measure_stands)
    (h_share_stands : HasFun X mg "share_stands" s_share_stands)
    (h_balance_stands : HasFun X mg "balance_stands" s_balance_stands)
    (h_broken_count : HasFun X mg "broken_count" s_broken_count)
    (h_balance_word : HasFun X mg "balance_word" s_balance_word)
    (h_kind_text : HasFun X mg "kind_text" s_kind_text)
    (h_ill_formed : HasFun X mg "ill_formed" s_ill_formed)
    (h_divisors_of : HasFun X mg "divisors_of" s_divisors_of)
    (h_balances_for : HasFun X mg "balances_for" s_balances_for)
    (h_kinds_with : HasFun X mg "kinds_with" s_kinds_with)
    (h_is_endless : HasFun X mg "is_endless" s_is_endless)
    (h__law_bag : HasFun X mg "_law_bag" s__law_bag)
    (h__law_draw : HasFun X mg "_law_draw" s__law_draw)
    (h__law_of : HasFun X mg "_law_of" s__law_of)
    (h__law_mixed : HasFun X mg "_law_mixed" s__law_mixed)
    (h__law_gcd : HasFun X mg "_law_gcd" s__law_gcd)
    (h__law_divisors : HasFun X mg "_law_divisors" s__law_divisors)
    (h__law_cut : HasFun X mg "_law_cut" s__law_cut)
    (h__law_weighed : HasFun X mg "_law_weighed" s__law_weighed)
    (h__law_broken : HasFun X mg "_law_broken" s__law_broken)
    (h__law_kind_text : HasFun X mg "_law_kind_text" s__law_kind_text)
    (h__law_sign : HasFun X mg "_law_sign" s__law_sign)
    (h__law_scale : HasFun X mg "_law_scale" s__law_scale)
    (h__law_kind_on : HasFun X mg "_law_kind_on" s__law_kind_on)
    (h__law_kinds_for : HasFun X mg "_law_kinds_for" s__law_kinds_for)
    (h__law_same_kind : HasFun X mg "_law_same_kind" s__law_same_kind)
    (h__law_kinds_told : HasFun X mg "_law_kinds_told" s__law_kinds_told)
    (h__law_yielded : HasFun X mg "_law_yielded" s__law_yielded)
    (h_divisor : HasFun X mg "divisor" s_divisor)
    (h_law : HasFun X mg "law" s_law)
    : ∃ fd : FuncData, (∀ (s : Shared) (v : Value), BindsTo s fd ⟨[v], []⟩ [("script", v)]) ∧ ∀ base : Heap, K.In base → base.Ns mainGlobals mg → FnOk P w K mg base CX0 10 fa fd ["script"] (spLaw K) := by
  have T : Tx mg := hT
  obtain ⟨CB, fB, fdB, gB, BC, IB, MB, FB⟩ := hB
  obtain ⟨CK, fK, fdK, ft, fdt, gK, KC, IK, MK, FK, mt, Ft⟩ := hK
  obtain ⟨fG, fdG, gG, FG⟩ := hG
  obtain ⟨fis_number, fdis_number, gis_number, Fis_number⟩ := h_is_number
  obtain ⟨freduced, fdreduced, greduced, Freduced⟩ := h_reduced
  obtain ⟨fdivides, fddivides, gdivides, Fdivides⟩ := h_divides
  obtain ⟨fhas_balance, fdhas_balance, ghas_balance, Fhas_balance⟩ := h_has_balance
  obtain ⟨fsome_odd_rim, fdsome_odd_rim, gsome_odd_rim, Fsome_odd_rim⟩ := h_some_odd_rim
  obtain ⟨frims_stand, fdrims_stand, grims_stand, Frims_stand⟩ := h_rims_stand
  obtain ⟨fdue_sum, fddue_sum, gdue_sum, Fdue_sum⟩ := h_due_sum
  obtain ⟨fsum_stands, fdsum_stands, gsum_stands, Fsum_stands⟩ := h_sum_stands
  obtain ⟨fmeasure_stands, fdmeasure_stands, gmeasure_stands, Fmeasure_stands⟩ := h_measure_stands
  obtain ⟨fshare_stands, fdshare_stands, gshare_stands, Fshare_stands⟩ := h_share_stands
  obtain ⟨fbalance_stands, fdbalance_stands, gbalance_stands, Fbalance_stands⟩ := h_balance_stands
  obtain ⟨fbroken_count, fdbroken_count, gbroken_count, Fbroken_count⟩ := h_broken_count
  obtain ⟨fbalance_word, fdbalance_word, gbalance_word, Fbalance_word⟩ := h_balance_word
  obtain ⟨fkind_text, fdkind_text, gkind_text, Fkind_text⟩ := h_kind_text
  obtain ⟨fill_formed, fdill_formed, gill_formed, Fill_formed⟩ := h_ill_formed
  obtain ⟨fdivisors_of, fddivisors_of, gdivisors_of, Fdivisors_of⟩ := h_divisors_of
  obtain ⟨fbalances_for, fdbalances_for, gbalances_for, Fbalances_for⟩ := h_balances_for
  obtain ⟨fkinds_with, fdkinds_with, gkinds_with, Fkinds_with⟩ := h_kinds_with
  obtain ⟨fis_endless, fdis_endless, gis_endless, Fis_endless⟩ := h_is_endless
  obtain ⟨f_law_bag, fd_law_bag, g_law_bag, F_law_bag⟩ := h__law_bag
  obtain ⟨f_law_draw, fd_law_draw, g_law_draw, F_law_draw⟩ := h__law_draw
  obtain ⟨f_law_of, fd_law_of, g_law_of, F_law_of⟩ := h__law_of
  obtain ⟨f_law_mixed, fd_law_mixed, g_law_mixed, F_law_mixed⟩ := h__law_mixed
  obtain ⟨f_law_gcd, fd_law_gcd, g_law_gcd, F_law_gcd⟩ := h__law_gcd
  obtain ⟨f_law_divisors, fd_law_divisors, g_law_divisors, F_law_divisors⟩ := h__law_divisors
  obtain ⟨f_law_cut, fd_law_cut, g_law_cut, F_law_cut⟩ := h__law_cut
  obtain ⟨f_law_weighed, fd_law_weighed, g_law_weighed, F_law_weighed⟩ := h__law_weighed
  obtain ⟨f_law_broken, fd_law_broken, g_law_broken, F_law_broken⟩ := h__law_broken
  obtain ⟨f_law_kind_text, fd_law_kind_text, g_law_kind_text, F_law_kind_text⟩ := h__law_kind_text
  obtain ⟨f_law_sign, fd_law_sign, g_law_sign, F_law_sign⟩ := h__law_sign
  obtain ⟨f_law_scale, fd_law_scale, g_law_scale, F_law_scale⟩ := h__law_scale
  obtain ⟨f_law_kind_on, fd_law_kind_on, g_law_kind_on, F_law_kind_on⟩ := h__law_kind_on
  obtain ⟨f_law_kinds_for, fd_law_kinds_for, g_law_kinds_for, F_law_kinds_for⟩ := h__law_kinds_for
  obtain ⟨f_law_same_kind, fd_law_same_kind, g_law_same_kind, F_law_same_kind⟩ := h__law_same_kind
  obtain ⟨f_law_kinds_told, fd_law_kinds_told, g_law_kinds_told, F_law_kinds_told⟩ := h__law_kinds_told
  obtain ⟨f_law_yielded, fd_law_yielded, g_law_yielded, F_law_yielded⟩ := h__law_yielded
  obtain ⟨fdivisor, fddivisor, gdivisor, Fdivisor⟩ := h_divisor
  obtain ⟨flaw, fdlaw, glaw, Flaw⟩ := h_law
  have elaw := hfa.symm.trans glaw
  obtain rfl : fa = flaw := Value.ref.inj (Option.some.inj elaw)
  have blaw : ∀ (s : Shared) (v : Value), BindsTo s fdlaw ⟨[v], []⟩ [("script", v)] := fun s v => by
    obtain ⟨oc, od, kV, doc, pm, an, cdv, ct, osl, rfl, lk, hcd⟩ := Flaw.ex
    exact .of_eq rfl
  refine ⟨fdlaw, blaw, fun base _ _ => ?_⟩
  have bis_number := Fis_number.binds (ps := ["value"]) fun _ _ _ _ _ _ us hl => match us, hl with | [_], _ => rfl
  have breduced := Freduced.binds (ps := ["book", "n"]) fun _ _ _ _ _ _ us hl => match us, hl with | [_, _], _ => rfl
  have bdivides := Fdivides.binds (ps := ["part", "whole"]) fun _ _ _ _ _ _ us hl => match us, hl with | [_, _], _ => rfl
  have bhas_balance := Fhas_balance.binds (ps := ["book", "share"]) fun _ _ _ _ _ _ us hl => match us, hl with | [_, _], _ => rfl
  have bsome_odd_rim := Fsome_odd_rim.binds (ps := ["book", "rims", "share"]) fun _ _ _ _ _ _ us hl => match us, hl with | [_, _, _], _ => rfl
  have brims_stand := Frims_stand.binds (ps := ["book", "rims"]) fun _ _ _ _ _ _ us hl => match us, hl with | [_, _], _ => rfl
  have bdue_sum := Fdue_sum.binds (ps := ["book", "handles", "many"]) fun _ _ _ _ _ _ us hl => match us, hl with | [_, _, _], _ => rfl
  have bsum_stands := Fsum_stands.binds (ps := ["book", "handles", "rims"]) fun _ _ _ _ _ _ us hl => match us, hl with | [_, _, _], _ => rfl
  have bmeasure_stands := Fmeasure_stands.binds (ps := ["book", "rims", "measure"]) fun _ _ _ _ _ _ us hl => match us, hl with | [_, _, _], _ => rfl
  have bshare_stands := Fshare_stands.binds (ps := ["book", "rims", "share"]) fun _ _ _ _ _ _ us hl => match us, hl with | [_, _, _], _ => rfl
  have bbalance_stands := Fbalance_stands.binds (ps := ["book", "rims", "share", "balance"]) fun _ _ _ _ _ _ us hl => match us, hl with | [_, _, _, _], _ => rfl
  have bbroken_count := Fbroken_count.binds (ps := ["book", "handles", "rims", "measure", "share", "balance"]) fun _ _ _ _ _ _ us hl => match us, hl with | [_, _, _, _, _, _], _ => rfl
  have bbalance_word := Fbalance_word.binds (ps := ["balance"]) fun _ _ _ _ _ _ us hl => match us, hl with | [_], _ => rfl
  have bkind_text := Fkind_text.binds (ps := ["book", "counts"]) fun _ _ _ _ _ _ us hl => match us, hl with | [_, _], _ => rfl
  have bill_formed := Fill_formed.binds (ps := ["handles", "measure", "share", "balance"]) fun _ _ _ _ _ _ us hl => match us, hl with | [_, _, _, _], _ => rfl
  have bdivisors_of := Fdivisors_of.binds (ps := ["number"]) fun _ _ _ _ _ _ us hl => match us, hl with | [_], _ => rfl
  have bbalances_for := Fbalances_for.binds (ps := ["book", "rims", "share"]) fun _ _ _ _ _ _ us hl => match us, hl with | [_, _, _], _ => rfl
  have bkinds_with := Fkinds_with.binds (ps := ["book", "handles", "rims"]) fun _ _ _ _ _ _ us hl => match us, hl with | [_, _, _], _ => rfl
  have bis_endless := Fis_endless.binds (ps := ["book", "handles", "rims"]) fun _ _ _ _ _ _ us hl => match us, hl with | [_, _, _], _ => rfl
  have b_law_bag := F_law_bag.binds (ps := ["script"]) fun _ _ _ _ _ _ us hl => match us, hl with | [_], _ => rfl
  have b_law_draw := F_law_draw.binds (ps := ["bag", "below"]) fun _ _ _ _ _ _ us hl => match us, hl with | [_, _], _ => rfl
  have b_law_of := F_law_of.binds (ps := ["bag", "some"]) fun _ _ _ _ _ _ us hl => match us, hl with | [_, _], _ => rfl
  have b_law_mixed := F_law_mixed.binds (ps := ["bag", "some"]) fun _ _ _ _ _ _ us hl => match us, hl with | [_, _], _ => rfl
  have b_law_gcd := F_law_gcd.binds (ps := ["some"]) fun _ _ _ _ _ _ us hl => match us, hl with | [_], _ => rfl
  have b_law_divisors := F_law_divisors.binds (ps := ["top"]) fun _ _ _ _ _ _ us hl => match us, hl with | [_], _ => rfl
  have b_law_cut := F_law_cut.binds (ps := ["mm", "worth"]) fun _ _ _ _ _ _ us hl => match us, hl with | [_, _], _ => rfl
  have b_law_weighed := F_law_weighed.binds (ps := ["nn", "mm", "step"]) fun _ _ _ _ _ _ us hl => match us, hl with | [_, _, _], _ => rfl
  have b_law_broken := F_law_broken.binds (ps := ["kd"]) fun _ _ _ _ _ _ us hl => match us, hl with | [_], _ => rfl
  have b_law_kind_text := F_law_kind_text.binds (ps := ["kd"]) fun _ _ _ _ _ _ us hl => match us, hl with | [_], _ => rfl
  have b_law_sign := F_law_sign.binds (ps := ["sign"]) fun _ _ _ _ _ _ us hl => match us, hl with | [_], _ => rfl
  have b_law_scale := F_law_scale.binds (ps := ["bag"]) fun _ _ _ _ _ _ us hl => match us, hl with | [_], _ => rfl
  have b_law_kind_on := F_law_kind_on.binds (ps := ["bag", "scale", "pairs", "count", "reach"]) fun _ _ _ _ _ _ us hl => match us, hl with | [_, _, _, _, _], _ => rfl
  have b_law_kinds_for := F_law_kinds_for.binds (ps := ["nn", "mm", "pairs", "edge"]) fun _ _ _ _ _ _ us hl => match us, hl with | [_, _, _, _], _ => rfl
  have b_law_same_kind := F_law_same_kind.binds (ps := ["told", "kd"]) fun _ _ _ _ _ _ us hl => match us, hl with | [_, _], _ => rfl
  have b_law_kinds_told := F_law_kinds_told.binds (ps := ["got", "due"]) fun _ _ _ _ _ _ us hl => match us, hl with | [_, _], _ => rfl
  have b_law_yielded := F_law_yielded.binds (ps := ["ground", "grips", "edge", "cut", "way"]) fun _ _ _ _ _ _ us hl => match us, hl with | [_, _, _, _, _], _ => rfl
  have bt := Ft.binds (ps := ["self"]) fun _ _ _ _ _ _ us hl => match us, hl with | [_], _ => rfl
  have Ois_number := ok_is_number (P := P) (w := w) (mg := mg) (base := base) (k := 0) T Fis_number
  have Obook := ok_book_init (P := P) (w := w) (mg := mg) (base := base) (C := CB) T BC (cal gis_number Fis_number.kp bis_number Ois_number (by decide) : Cal P w K mg base 1 "is_number" ["value"] (spIsNumber)) FB
  have MBook : BMade P w K mg base 8 CB := ⟨fB, fdB, gB, MB, Obook.mono (by decide), book_b FB⟩
  have Oreduced := ok_reduced (P := P) (w := w) (mg := mg) (base := base) (k := 0) BC Freduced
  have Odivides := ok_divides (P := P) (w := w) (mg := mg) (base := base) (k := 0) Fdivides
  have Ohas_balance := ok_has_balance (P := P) (w := w) (mg := mg) (base := base) (k := 0) BC Fhas_balance
  have Osome_odd_rim := ok_some_odd_rim (P := P) (w := w) (mg := mg) (base := base) (k := 0) T BC Fsome_odd_rim
  have Orims_stand := ok_rims_stand (P := P) (w := w) (mg := mg) (base := base) (k := 0) T BC Frims_stand
  have Odue_sum := ok_due_sum (P := P) (w := w) (mg := mg) (base := base) (k := 0) BC Fdue_sum
  have Osum_stands := ok_sum_stands (P := P) (w := w) (mg := mg) (base := base) T BC (cal gdue_sum Fdue_sum.kp bdue_sum Odue_sum (by decide) : Cal P w K mg base 1 "due_sum" ["book", "handles", "many"] (spDueSum CB)) (cal gdivides Fdivides.kp bdivides Odivides (by decide) : Cal P w K mg base 1 "divides" ["part", "whole"] (spDivides)) Fsum_stands
  have Omeasure_stands := ok_measure_stands (P := P) (w := w) (mg := mg) (base := base) T BC (cal gdivides Fdivides.kp bdivides Odivides (by decide) : Cal P w K mg base 1 "divides" ["part", "whole"] (spDivides)) Fmeasure_stands
  have Oshare_stands := ok_share_stands (P := P) (w := w) (mg := mg) (base := base) (k := 0) T BC Fshare_stands
  have Obalance_stands := ok_balance_stands (P := P) (w := w) (mg := mg) (base := base) (cal ghas_balance Fhas_balance.kp bhas_balance Ohas_balance (by decide) : Cal P w K mg base 1 "has_balance" ["book", "share"] (spHasBal CB)) (cal gsome_odd_rim Fsome_odd_rim.kp bsome_odd_rim Osome_odd_rim (by decide) : Cal P w K mg base 1 "some_odd_rim" ["book", "rims", "share"] (spOddRim K CB)) Fbalance_stands
  have Obroken_count := ok_broken_count (P := P) (w := w) (mg := mg) (base := base) (cal grims_stand Frims_stand.kp brims_stand Orims_stand (by decide) : Cal P w K mg base 2 "rims_stand" ["book", "rims"] (spRimsOk K CB)) (cal gsum_stands Fsum_stands.kp bsum_stands Osum_stands (by decide) : Cal P w K mg base 2 "sum_stands" ["book", "handles", "rims"] (spSumOk K CB)) (cal gmeasure_stands Fmeasure_stands.kp bmeasure_stands Omeasure_stands (by decide) : Cal P w K mg base 2 "measure_stands" ["book", "rims", "measure"] (spMeasOk K CB)) (cal gshare_stands Fshare_stands.kp bshare_stands Oshare_stands (by decide) : Cal P w K mg base 2 "share_stands" ["book", "rims", "share"] (spShareOk K CB)) (cal gbalance_stands Fbalance_stands.kp bbalance_stands Obalance_stands (by decide) : Cal P w K mg base 2 "balance_stands" ["book", "rims", "share", "balance"] (spBalOk K CB)) Fbroken_count
  have Oill_formed := ok_ill_formed (P := P) (w := w) (mg := mg) (base := base) (k := 0) T Fill_formed
  have Okind := ok_kind_init (P := P) (w := w) (mg := mg) (base := base) (CK := CK) T KC (cal gill_formed Fill_formed.kp bill_formed Oill_formed (by decide) : Cal P w K mg base 3 "ill_formed" ["handles", "measure", "share", "balance"] (spIll)) (cal gbroken_count Fbroken_count.kp bbroken_count Obroken_count (by decide) : Cal P w K mg base 3 "broken_count" ["book", "handles", "rims", "measure", "share", "balance"] (spBroken K CB)) FK
  have MKind : ∀ k, 4 ≤ k → KMade P w K mg base k CB CK := fun k hk => ⟨fK, fdK, gK, MK, Okind.mono hk, kind_b0 FK, kind_bM FK, kind_bS FK⟩
  have Obalance_word := ok_balance_word (P := P) (w := w) (mg := mg) (base := base) (k := 0) Fbalance_word
  have Okind_text := ok_kind_text (P := P) (w := w) (mg := mg) (base := base) T BC (cal gbalance_word Fbalance_word.kp bbalance_word Obalance_word (by decide) : Cal P w K mg base 1 "balance_word" ["balance"] (spBw)) Fkind_text
  have Otext := ok_kind_text_m (P := P) (w := w) (mg := mg) (base := base) (CK := CK) T KC (cal gkind_text Fkind_text.kp bkind_text Okind_text (by decide) : Cal P w K mg base 2 "kind_text" ["book", "counts"] (spKText K CB)) Ft
  have MText : CalTxt P w K mg base 3 CK (spKindText K CB CK) := ⟨ft, fdt, KC.cl, mt, Otext, bt⟩
  have Odivisor := ok_divisor (P := P) (w := w) (mg := mg) (base := base) (k := 0) T Fdivisor
  have Cdivisor : CalR P w K mg base 5 "divisor" spDivisor := ⟨fdivisor, gdivisor, Fdivisor.kp, Odivisor.mono (by decide)⟩
  have Odivisors_of := ok_divisors_of (P := P) (w := w) (mg := mg) (base := base) (k := 0) T Fdivisors_of
  have Obalances_for := ok_balances_for (P := P) (w := w) (mg := mg) (base := base) (cal ghas_balance Fhas_balance.kp bhas_balance Ohas_balance (by decide) : Cal P w K mg base 1 "has_balance" ["book", "share"] (spHasBal CB)) (cal gsome_odd_rim Fsome_odd_rim.kp bsome_odd_rim Osome_odd_rim (by decide) : Cal P w K mg base 1 "some_odd_rim" ["book", "rims", "share"] (spOddRim K CB)) Fbalances_for
  have Ois_endless := ok_is_endless (P := P) (w := w) (mg := mg) (base := base) (k := 0) T BC Fis_endless
  have Okinds_with := ok_kinds_with (P := P) (w := w) (mg := mg) (base := base) T BC (cal gsum_stands Fsum_stands.kp bsum_stands Osum_stands (by decide) : Cal P w K mg base 5 "sum_stands" ["book", "handles", "rims"] (spSumOk K CB)) (MKind 4 (by decide)) Cdivisor (cal gdivisors_of Fdivisors_of.kp bdivisors_of Odivisors_of (by decide) : Cal P w K mg base 5 "divisors_of" ["number"] (spDivs)) (cal gbalances_for Fbalances_for.kp bbalances_for Obalances_for (by decide) : Cal P w K mg base 5 "balances_for" ["book", "rims", "share"] (spBalFor K CB)) Fkinds_with
  have Ogen := ok_kinds_of (P := P) (w := w) (mg := mg) (base := base) T (cal greduced Freduced.kp breduced Oreduced (by decide) : Cal P w K mg base 6 "reduced" ["book", "n"] (spReduced CB)) (cal gis_endless Fis_endless.kp bis_endless Ois_endless (by decide) : Cal P w K mg base 6 "is_endless" ["book", "handles", "rims"] (spEndl K CB)) (MKind 5 (by decide)) (cal gkinds_with Fkinds_with.kp bkinds_with Okinds_with (by decide) : Cal P w K mg base 6 "kinds_with" ["book", "handles", "rims"] (spKindsW K CB CK)) FG
  have MGen : GMk P w K mg base 7 CB CK := ⟨fG, fdG, gG, FG.kp, Ogen, gen_b0 FG, gen_b1 FG, gen_b2 FG⟩
  have O_law_bag := ok_law_bag (P := P) (w := w) (mg := mg) (base := base) (k := 0) T F_law_bag
  have O_law_draw := ok_law_draw (P := P) (w := w) (mg := mg) (base := base) (k := 0) T F_law_draw
  have O_law_of := ok_law_of (P := P) (w := w) (mg := mg) (base := base) T (cal g_law_draw F_law_draw.kp b_law_draw O_law_draw (by decide) : Cal P w K mg base 1 "_law_draw" ["bag", "below"] (spDraw)) F_law_of
  have O_law_mixed := ok_law_mixed (P := P) (w := w) (mg := mg) (base := base) T (cal g_law_draw F_law_draw.kp b_law_draw O_law_draw (by decide) : Cal P w K mg base 1 "_law_draw" ["bag", "below"] (spDraw)) F_law_mixed
  have O_law_gcd := ok_law_gcd (P := P) (w := w) (mg := mg) (base := base) (k := 0) T F_law_gcd
  have O_law_divisors := ok_law_divisors (P := P) (w := w) (mg := mg) (base := base) (k := 0) T F_law_divisors
  have O_law_cut := ok_law_cut (P := P) (w := w) (mg := mg) (base := base) (k := 0) T F_law_cut
  have O_law_weighed := ok_law_weighed (P := P) (w := w) (mg := mg) (base := base) (k := 0) T F_law_weighed
  have O_law_broken := ok_law_broken (P := P) (w := w) (mg := mg) (base := base) T (cal g_law_cut F_law_cut.kp b_law_cut O_law_cut (by decide) : Cal P w K mg base 1 "_law_cut" ["mm", "worth"] (spCut)) (cal g_law_gcd F_law_gcd.kp b_law_gcd O_law_gcd (by decide) : Cal P w K mg base 1 "_law_gcd" ["some"] (spGcd K)) (cal g_law_weighed F_law_weighed.kp b_law_weighed O_law_weighed (by decide) : Cal P w K mg base 1 "_law_weighed" ["nn", "mm", "step"] (spWeighed)) F_law_broken
  have O_law_sign := ok_law_sign (P := P) (w := w) (mg := mg) (base := base) (k := 0) F_law_sign
  have O_law_kind_text := ok_law_kind_text (P := P) (w := w) (mg := mg) (base := base) T (cal g_law_sign F_law_sign.kp b_law_sign O_law_sign (by decide) : Cal P w K mg base 1 "_law_sign" ["sign"] (spSign)) F_law_kind_text
  have O_law_kinds_for := ok_law_kinds_for (P := P) (w := w) (mg := mg) (base := base) T (cal g_law_gcd F_law_gcd.kp b_law_gcd O_law_gcd (by decide) : Cal P w K mg base 2 "_law_gcd" ["some"] (spGcd K)) (cal g_law_broken F_law_broken.kp b_law_broken O_law_broken (by decide) : Cal P w K mg base 2 "_law_broken" ["kd"] (spLBroken)) F_law_kinds_for
  have O_law_same_kind := ok_law_same_kind (P := P) (w := w) (mg := mg) (base := base) T BC KC IB IK gK gB MText (cal g_law_kind_text F_law_kind_text.kp b_law_kind_text O_law_kind_text (by decide) : Cal P w K mg base 3 "_law_kind_text" ["kd"] (spTextL)) F_law_same_kind
  have O_law_kinds_told := ok_law_kinds_told (P := P) (w := w) (mg := mg) (base := base) (CB := CB) (CK := CK) T (cal g_law_same_kind F_law_same_kind.kp b_law_same_kind O_law_same_kind (by decide) : Cal P w K mg base 4 "_law_same_kind" ["told", "kd"] (spSame K CB CK)) F_law_kinds_told
  have O_law_scale := ok_law_scale (P := P) (w := w) (mg := mg) (base := base) T (cal g_law_draw F_law_draw.kp b_law_draw O_law_draw (by decide) : Cal P w K mg base 1 "_law_draw" ["bag", "below"] (spDraw)) F_law_scale
  have O_law_kind_on := ok_law_kind_on (P := P) (w := w) (mg := mg) (base := base) T (cal g_law_draw F_law_draw.kp b_law_draw O_law_draw (by decide) : Cal P w K mg base 2 "_law_draw" ["bag", "below"] (spDraw)) (cal g_law_of F_law_of.kp b_law_of O_law_of (by decide) : Cal P w K mg base 2 "_law_of" ["bag", "some"] (spOf K)) (cal g_law_gcd F_law_gcd.kp b_law_gcd O_law_gcd (by decide) : Cal P w K mg base 2 "_law_gcd" ["some"] (spGcd K)) (cal g_law_divisors F_law_divisors.kp b_law_divisors O_law_divisors (by decide) : Cal P w K mg base 2 "_law_divisors" ["top"] (spDivsL)) (cal g_law_cut F_law_cut.kp b_law_cut O_law_cut (by decide) : Cal P w K mg base 2 "_law_cut" ["mm", "worth"] (spCut)) (cal g_law_weighed F_law_weighed.kp b_law_weighed O_law_weighed (by decide) : Cal P w K mg base 2 "_law_weighed" ["nn", "mm", "step"] (spWeighed)) F_law_kind_on
  have O_law_yielded := ok_law_yielded (P := P) (w := w) (mg := mg) (base := base) T MGen F_law_yielded
  exact ok_law (P := P) (w := w) (mg := mg) (base := base) (CB := CB) (CK := CK) T BC MBook (cal g_law_bag F_law_bag.kp b_law_bag O_law_bag (by decide) : Cal P w K mg base 9 "_law_bag" ["script"] (spBag K)) (cal g_law_draw F_law_draw.kp b_law_draw O_law_draw (by decide) : Cal P w K mg base 9 "_law_draw" ["bag", "below"] (spDraw)) (cal g_law_of F_law_of.kp b_law_of O_law_of (by decide) : Cal P w K mg base 9 "_law_of" ["bag", "some"] (spOf K)) (cal g_law_mixed F_law_mixed.kp b_law_mixed O_law_mixed (by decide) : Cal P w K mg base 9 "_law_mixed" ["bag", "some"] (spMixed K)) (cal g_law_scale F_law_scale.kp b_law_scale O_law_scale (by decide) : Cal P w K mg base 9 "_law_scale" ["bag"] (spScale)) (cal g_law_kind_on F_law_kind_on.kp b_law_kind_on O_law_kind_on (by decide) : Cal P w K mg base 9 "_law_kind_on" ["bag", "scale", "pairs", "count", "reach"] (spKindOn)) (cal g_law_kinds_for F_law_kinds_for.kp b_law_kinds_for O_law_kinds_for (by decide) : Cal P w K mg base 9 "_law_kinds_for" ["nn", "mm", "pairs", "edge"] (spKindsFor)) (cal g_law_yielded F_law_yielded.kp b_law_yielded O_law_yielded (by decide) : Cal P w K mg base 9 "_law_yielded" ["ground", "grips", "edge", "cut", "way"] (spYield K CB CK)) (cal g_law_kinds_told F_law_kinds_told.kp b_law_kinds_told O_law_kinds_told (by decide) : Cal P w K mg base 9 "_law_kinds_told" ["got", "due"] (spTold K CB CK)) Flaw
end
theorem walk {l : PySem.W.OpenLaw} {q : Program} {loose : List Str} {XP : (Str → Option Value) → Heap → Prop} {YP : World → Heap → Prop} {d : DefRec} {K : Params → PySem.W.Frag} (hn : l.most = some 63) (hdf : d.params.defaults = [])
    (hY : ∀ (w : World) (h : Heap), YP w h → (K w.params).In h)
    (F : ∀ (w : World) (mg : Str → Option Value) (fa : Addr) (h : Heap), (K w.params).In h → h.Ns mainGlobals mg → mg d.name = some (.ref fa) →
      ∃ fd : FuncData, (∀ (s : Shared) (u : Value), BindsTo s fd ⟨[u], []⟩ [("script", u)]) ∧ ∀ base : Heap, (K w.params).In base → base.Ns mainGlobals mg → FnOk l.prog w (K w.params) mg base CX0 10 fa fd ["script"] (spLaw (K w.params))) :
    PySem.W.WalkO q loose XP YP l.row.toRowW d [] (fun f vs => PySem.call f vs) :=
  L2.walk_of (n := 63) (k := 10) (x := "script") (CX := fun _ => CX0) (sp := fun w => spLaw (K w.params)) hn (by decide) hdf ⟨rfl, by decide, by decide⟩ hY F (fun _ _ a ns hl _ hS => ⟨a, ns, rfl, hS, hl, fun _ => rfl⟩) fun _ _ _ _ _ z => z
end C53
open PySem PySem.W PyProof.Rows in
set_option maxRecDepth 100000 in
set_option maxHeartbeats 0 in
theorem PySem.Challenge.cw_combed_k53_whole_kinds_of_rims_holds : PySem.Challenge.rw_combed_k53_whole_kinds_of_rims.Holds := by
  w_on; o_law; k_head; (case hw => w_witness2)
  k_fill
  refine C53.walk (l := PySem.Challenge.rw_combed_k53_whole_kinds_of_rims) rfl rfl (fun w h Y => PySem.W.kIn_of Y) ?F
  case F =>
    intro w mg fa h KX G hmg
    have hT : C53.HasTx KX mg := by
      refine' ⟨PySem.W.mg_none_of KX G ?z0, PySem.W.mg_none_of KX G ?z1, PySem.W.mg_none_of KX G ?z2, PySem.W.mg_none_of KX G ?z3, PySem.W.mg_none_of KX G ?z4, PySem.W.mg_none_of KX G ?z5, PySem.W.mg_none_of KX G ?z6, PySem.W.mg_none_of KX G ?z7, PySem.W.mg_none_of KX G ?z8, PySem.W.mg_none_of KX G ?z9, PySem.W.mg_none_of KX G ?z10, PySem.W.mg_none_of KX G ?z11, PySem.W.mg_none_of KX G ?z12, PySem.W.mg_of KX G ?zg, C53.num_of (PySem.W.mg_of KX G ?za) ?ea, C53.num_of (PySem.W.mg_of KX G ?zm) ?em⟩
      (case z0 => k_is)
      (case z1 => k_is)
      (case z2 => k_is)
      (case z3 => k_is)
      (case z4 => k_is)
      (case z5 => k_is)
      (case z6 => k_is)
      (case z7 => k_is)
      (case z8 => k_is)
      (case z9 => k_is)
      (case z10 => k_is)
      (case z11 => k_is)
      (case z12 => k_is)
      (case zg => k_is)
      (case za => k_is)
      (case zm => k_is)
      (case ea => exact ⟨_, rfl⟩)
      (case em => exact ⟨_, rfl⟩)
    have hB : C53.HasBook KX mg := by
      refine' ⟨_, _, _, PySem.W.mg_of KX G ?aC, ⟨⟨?pg0, ?hd0, ?po0, ?sa0⟩, ?nA, ?nM⟩, ⟨⟨?pg, ?hd, ?po, ?sa⟩, ?ic, ?is, ?it, ?im⟩, ⟨?mk, ?a1, ?i1, ?kc⟩, C53.fund_book ?l1 ?c1 ?k1 ?lT⟩
      (case aC => k_is)
      (case pg0 => k_is)
      (case hd0 => k_is)
      (case po0 => k_is)
      (case sa0 => k_is)
      (case nA => unfold L2.NoAttr; k_is)
      (case nM => unfold L2.NoAttr; k_is)
      (case pg => k_is)
      (case hd => k_is)
      (case po => k_is)
      (case sa => k_is)
      (case ic => k_is)
      (case is => k_is)
      (case it => k_is)
      (case im => k_is)
      (case mk => k_is)
      (case a1 => k_is)
      (case i1 => k_is)
      (case kc => k_is)
      (case l1 => k_is)
      (case c1 => k_is)
      (case k1 => k_is)
      (case lT => k_is)
    have hK : C53.HasKind KX mg := by
      refine' ⟨_, _, _, _, _, PySem.W.mg_of KX G ?aC, ⟨⟨?pg0, ?hd0, ?po0, ?sa0⟩, ?n1, ?n2, ?n3, ?n4, ?n5, ?n6⟩, ⟨⟨?pg, ?hd, ?po, ?sa⟩, ?ic, ?is, ?it, ?im⟩, ⟨?mk, ?a1, ?i1, ?kc⟩, C53.fund_kind ?l1 ?c1 ?k1 ?d1 ?d2 ?d3, ⟨?a2, ?i2, ?k2⟩, L2.fun_mk ?l2 ?c2 ?k2b⟩
      (case aC => k_is)
      (case pg0 => k_is)
      (case hd0 => k_is)
      (case po0 => k_is)
      (case sa0 => k_is)
      (case n1 => unfold L2.NoAttr; k_is)
      (case n2 => unfold L2.NoAttr; k_is)
      (case n3 => unfold L2.NoAttr; k_is)
      (case n4 => unfold L2.NoAttr; k_is)
      (case n5 => unfold L2.NoAttr; k_is)
      (case n6 => unfold L2.NoAttr; k_is)
      (case pg => k_is)
      (case hd => k_is)
      (case po => k_is)
      (case sa => k_is)
      (case ic => k_is)
      (case is => k_is)
      (case it => k_is)
      (case im => k_is)
      (case mk => k_is)
      (case a1 => k_is)
      (case i1 => k_is)
      (case kc => k_is)
      (case l1 => k_is)
      (case c1 => k_is)
      (case k1 => k_is)
      (case d1 => k_is)
      (case d2 => k_is)
      (case d3 => k_is)
      (case a2 => k_is)
      (case i2 => k_is)
      (case k2 => k_is)
      (case l2 => k_is)
      (case c2 => k_is)
      (case k2b => k_is)
    have hG : C53.HasGen KX mg := by
      refine' ⟨_, _, PySem.W.mg_of KX G ?a, C53.fund_gen ?l ?c ?k ?d⟩
      (case a => k_is)
      (case l => k_is)
      (case c => k_is)
      (case k => k_is)
      (case d => k_is)
    have h_is_number : C53.HasFun KX mg "is_number" C53.s_is_number := by
      refine' ⟨_, _, PySem.W.mg_of KX G ?a, L2.fun_mk ?l ?c ?k⟩
      (case a => k_is)
      (case l => k_is)
      (case c => k_is)
      (case k => k_is)
    have h_reduced : C53.HasFun KX mg "reduced" C53.s_reduced := by
      refine' ⟨_, _, PySem.W.mg_of KX G ?a, L2.fun_mk ?l ?c ?k⟩
      (case a => k_is)
      (case l => k_is)
      (case c => k_is)
      (case k => k_is)
    have h_divides : C53.HasFun KX mg "divides" C53.s_divides := by
      refine' ⟨_, _, PySem.W.mg_of KX G ?a, L2.fun_mk ?l ?c ?k⟩
      (case a => k_is)
      (case l => k_is)
      (case c => k_is)
      (case k => k_is)
    have h_has_balance : C53.HasFun KX mg "has_balance" C53.s_has_balance := by
      refine' ⟨_, _, PySem.W.mg_of KX G ?a, L2.fun_mk ?l ?c ?k⟩
      (case a => k_is)
      (case l => k_is)
      (case c => k_is)
      (case k => k_is)
    have h_some_odd_rim : C53.HasFun KX mg "some_odd_rim" C53.s_some_odd_rim := by
      refine' ⟨_, _, PySem.W.mg_of KX G ?a, L2.fun_mk ?l ?c ?k⟩
      (case a => k_is)
      (case l => k_is)
      (case c => k_is)
      (case k => k_is)
    have h_rims_stand : C53.HasFun KX mg "rims_stand" C53.s_rims_stand := by
      refine' ⟨_, _, PySem.W.mg_of KX G ?a, L2.fun_mk ?l ?c ?k⟩
      (case a => k_is)
      (case l => k_is)
      (case c => k_is)
      (case k => k_is)
    have h_due_sum : C53.HasFun KX mg "due_sum" C53.s_due_sum := by
      refine' ⟨_, _, PySem.W.mg_of KX G ?a, L2.fun_mk ?l ?c ?k⟩
      (case a => k_is)
      (case l => k_is)
      (case c => k_is)
      (case k => k_is)
    have h_sum_stands : C53.HasFun KX mg "sum_stands" C53.s_sum_stands := by
      refine' ⟨_, _, PySem.W.mg_of KX G ?a, L2.fun_mk ?l ?c ?k⟩
      (case a => k_is)
      (case l => k_is)
      (case c => k_is)
      (case k => k_is)
    have h_measure_stands : C53.HasFun KX mg "measure_stands" C53.s_measure_stands := by
      refine' ⟨_, _, PySem.W.mg_of KX G ?a, L2.fun_mk ?l ?c ?k⟩
      (case a => k_is)
      (case l => k_is)
      (case c => k_is)
      (case k => k_is)
    have h_share_stands : C53.HasFun KX mg "share_stands" C53.s_share_stands := by
      refine' ⟨_, _, PySem.W.mg_of KX G ?a, L2.fun_mk ?l ?c ?k⟩
      (case a => k_is)
      (case l => k_is)
      (case c => k_is)
      (case k => k_is)
    have h_balance_stands : C53.HasFun KX mg "balance_stands" C53.s_balance_stands := by
      refine' ⟨_, _, PySem.W.mg_of KX G ?a, L2.fun_mk ?l ?c ?k⟩
      (case a => k_is)
      (case l => k_is)
      (case c => k_is)
      (case k => k_is)
    have h_broken_count : C53.HasFun KX mg "broken_count" C53.s_broken_count := by
      refine' ⟨_, _, PySem.W.mg_of KX G ?a, L2.fun_mk ?l ?c ?k⟩
      (case a => k_is)
      (case l => k_is)
      (case c => k_is)
      (case k => k_is)
    have h_balance_word : C53.HasFun KX mg "balance_word" C53.s_balance_word := by
      refine' ⟨_, _, PySem.W.mg_of KX G ?a, L2.fun_mk ?l ?c ?k⟩
      (case a => k_is)
      (case l => k_is)
      (case c => k_is)
      (case k => k_is)
    have h_kind_text : C53.HasFun KX mg "kind_text" C53.s_kind_text := by
      refine' ⟨_, _, PySem.W.mg_of KX G ?a, L2.fun_mk ?l ?c ?k⟩
      (case a => k_is)
      (case l => k_is)
      (case c => k_is)
      (case k => k_is)
    have h_ill_formed : C53.HasFun KX mg "ill_formed" C53.s_ill_formed := by
      refine' ⟨_, _, PySem.W.mg_of KX G ?a, L2.fun_mk ?l ?c ?k⟩
      (case a => k_is)
      (case l => k_is)
      (case c => k_is)
      (case k => k_is)
    have h_divisors_of : C53.HasFun KX mg "divisors_of" C53.s_divisors_of := by
      refine' ⟨_, _, PySem.W.mg_of KX G ?a, L2.fun_mk ?l ?c ?k⟩
      (case a => k_is)
      (case l => k_is)
      (case c => k_is)
      (case k => k_is)
    have h_balances_for : C53.HasFun KX mg "balances_for" C53.s_balances_for := by
      refine' ⟨_, _, PySem.W.mg_of KX G ?a, L2.fun_mk ?l ?c ?k⟩
      (case a => k_is)
      (case l => k_is)
      (case c => k_is)
      (case k => k_is)
    have h_kinds_with : C53.HasFun KX mg "kinds_with" C53.s_kinds_with := by
      refine' ⟨_, _, PySem.W.mg_of KX G ?a, L2.fun_mk ?l ?c ?k⟩
      (case a => k_is)
      (case l => k_is)
      (case c => k_is)
      (case k => k_is)
    have h_is_endless : C53.HasFun KX mg "is_endless" C53.s_is_endless := by
      refine' ⟨_, _, PySem.W.mg_of KX G ?a, L2.fun_mk ?l ?c ?k⟩
      (case a => k_is)
      (case l => k_is)
      (case c => k_is)
      (case k => k_is)
    have h__law_bag : C53.HasFun KX mg "_law_bag" C53.s__law_bag := by
      refine' ⟨_, _, PySem.W.mg_of KX G ?a, L2.fun_mk ?l ?c ?k⟩
      (case a => k_is)
      (case l => k_is)
      (case c => k_is)
      (case k => k_is)
    have h__law_draw : C53.HasFun KX mg "_law_draw" C53.s__law_draw := by
      refine' ⟨_, _, PySem.W.mg_of KX G ?a, L2.fun_mk ?l ?c ?k⟩
      (case a => k_is)
      (case l => k_is)
      (case c => k_is)
      (case k => k_is)
    have h__law_of : C53.HasFun KX mg "_law_of" C53.s__law_of := by
      refine' ⟨_, _, PySem.W.mg_of KX G ?a, L2.fun_mk ?l ?c ?k⟩
      (case a => k_is)
      (case l => k_is)
      (case c => k_is)
      (case k => k_is)
    have h__law_mixed : C53.HasFun KX mg "_law_mixed" C53.s__law_mixed := by
      refine' ⟨_, _, PySem.W.mg_of KX G ?a, L2.fun_mk ?l ?c ?k⟩
      (case a => k_is)
      (case l => k_is)
      (case c => k_is)
      (case k => k_is)
    have h__law_gcd : C53.HasFun KX mg "_law_gcd" C53.s__law_gcd := by
      refine' ⟨_, _, PySem.W.mg_of KX G ?a, L2.fun_mk ?l ?c ?k⟩
      (case a => k_is)
      (case l => k_is)
      (case c => k_is)
      (case k => k_is)
    have h__law_divisors : C53.HasFun KX mg "_law_divisors" C53.s__law_divisors := by
      refine' ⟨_, _, PySem.W.mg_of KX G ?a, L2.fun_mk ?l ?c ?k⟩
      (case a => k_is)
      (case l => k_is)
      (case c => k_is)
      (case k => k_is)
    have h__law_cut : C53.HasFun KX mg "_law_cut" C53.s__law_cut := by
      refine' ⟨_, _, PySem.W.mg_of KX G ?a, L2.fun_mk ?l ?c ?k⟩
      (case a => k_is)
      (case l => k_is)
      (case c => k_is)
      (case k => k_is)
    have h__law_weighed : C53.HasFun KX mg "_law_weighed" C53.s__law_weighed := by
      refine' ⟨_, _, PySem.W.mg_of KX G ?a, L2.fun_mk ?l ?c ?k⟩
      (case a => k_is)
      (case l => k_is)
      (case c => k_is)
      (case k => k_is)
    have h__law_broken : C53.HasFun KX mg "_law_broken" C53.s__law_broken := by
      refine' ⟨_, _, PySem.W.mg_of KX G ?a, L2.fun_mk ?l ?c ?k⟩
      (case a => k_is)
      (case l => k_is)
      (case c => k_is)
      (case k => k_is)
    have h__law_kind_text : C53.HasFun KX mg "_law_kind_text" C53.s__law_kind_text := by
      refine' ⟨_, _, PySem.W.mg_of KX G ?a, L2.fun_mk ?l ?c ?k⟩
      (case a => k_is)
      (case l => k_is)
      (case c => k_is)
      (case k => k_is)
    have h__law_sign : C53.HasFun KX mg "_law_sign" C53.s__law_sign := by
      refine' ⟨_, _, PySem.W.mg_of KX G ?a, L2.fun_mk ?l ?c ?k⟩
      (case a => k_is)
      (case l => k_is)
      (case c => k_is)
      (case k => k_is)
    have h__law_scale : C53.HasFun KX mg "_law_scale" C53.s__law_scale := by
      refine' ⟨_, _, PySem.W.mg_of KX G ?a, L2.fun_mk ?l ?c ?k⟩
      (case a => k_is)
      (case l => k_is)
      (case c => k_is)
      (case k => k_is)
    have h__law_kind_on : C53.HasFun KX mg "_law_kind_on" C53.s__law_kind_on := by
      refine' ⟨_, _, PySem.W.mg_of KX G ?a, L2.fun_mk ?l ?c ?k⟩
      (case a => k_is)
      (case l => k_is)
      (case c => k_is)
      (case k => k_is)
    have h__law_kinds_for : C53.HasFun KX mg "_law_kinds_for" C53.s__law_kinds_for := by
      refine' ⟨_, _, PySem.W.mg_of KX G ?a, L2.fun_mk ?l ?c ?k⟩
      (case a => k_is)
      (case l => k_is)
      (case c => k_is)
      (case k => k_is)
    have h__law_same_kind : C53.HasFun KX mg "_law_same_kind" C53.s__law_same_kind := by
      refine' ⟨_, _, PySem.W.mg_of KX G ?a, L2.fun_mk ?l ?c ?k⟩
      (case a => k_is)
      (case l => k_is)
      (case c => k_is)
      (case k => k_is)
    have h__law_kinds_told : C53.HasFun KX mg "_law_kinds_told" C53.s__law_kinds_told := by
      refine' ⟨_, _, PySem.W.mg_of KX G ?a, L2.fun_mk ?l ?c ?k⟩
      (case a => k_is)
      (case l => k_is)
      (case c => k_is)
      (case k => k_is)
    have h__law_yielded : C53.HasFun KX mg "_law_yielded" C53.s__law_yielded := by
      refine' ⟨_, _, PySem.W.mg_of KX G ?a, L2.fun_mk ?l ?c ?k⟩
      (case a => k_is)
      (case l => k_is)
      (case c => k_is)
      (case k => k_is)
    have h_divisor : C53.HasFun KX mg "divisor" C53.s_divisor := by
      refine' ⟨_, _, PySem.W.mg_of KX G ?a, L2.fun_mk ?l ?c ?k⟩
      (case a => k_is)
      (case l => k_is)
      (case c => k_is)
      (case k => k_is)
    have h_law : C53.HasFun KX mg "law" C53.s_law := by
      refine' ⟨_, _, PySem.W.mg_of KX G ?a, L2.fun_mk ?l ?c ?k⟩
      (case a => k_is)
      (case l => k_is)
      (case c => k_is)
      (case k => k_is)
    exact C53.law_all KX G hmg hT hB hK hG h_is_number h_reduced h_divides h_has_balance h_some_odd_rim h_rims_stand h_due_sum h_sum_stands h_measure_stands h_share_stands h_balance_stands h_broken_count h_balance_word h_kind_text h_ill_formed h_divisors_of h_balances_for h_kinds_with h_is_endless h__law_bag h__law_draw h__law_of h__law_mixed h__law_gcd h__law_divisors h__law_cut h__law_weighed h__law_broken h__law_kind_text h__law_sign h__law_scale h__law_kind_on h__law_kinds_for h__law_same_kind h__law_kinds_told h__law_yielded h_divisor h_law
