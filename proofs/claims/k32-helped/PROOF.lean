import PyProof.Rows.All
import Wide.All
import OpenK.AllK
import Wide.FinOn
import KE.KStateDown
import HandS.ForMost
import HandS.ForExc
import HandS.SortInts
import HandS.Zip
import HandS.Conv
import HandS.IsInst
import HandS.Flow
import HandS.ExcIs
import HandS.SetFor
import HandS.Small
import PySem.Challenge.RW_leftwithout_k32_whole_who_is_helped
import HandS.Defaults
import HandS.HeadHook2
import HandS.Head0
import HandS.Head1
import HandS.Head2
import HandS.HeadEnd
import HandS.HeadHook1
import HandS.HeadHook4
set_option Elab.async false
set_option linter.all false
set_option maxRecDepth 100000
set_option maxHeartbeats 0
namespace LW
open PySem PySem.Spec PyProof.Rows L2
/-! own rules: sorted of a tuple of ints, len(set(a tuple of ints)), an own error without arguments -/
section
variable {prog : Program} {w : World} {A : Around} {E : Value → Shared → Prop} {s : Shared}
theorem collect_tup {l : Addr} {vs : List Value} {Q : List Value → Shared → Prop} (hl : s.heap.IsTuple l vs.toArray)
    (h : Q vs { s with heap := (s.heap.push (seqObj "list" #[] 0)).update s.heap.objs.size (Obj.mapSeq (· ++ vs.toArray)) }) (hsz : vs.length ≤ sizeLine) :
    wpAny (model prog w) A (collect (.ref l)) Q E s := by
  obtain ⟨o, ho, hc, n, hd⟩ := id hl
  unfold collect
  refine wpAny_bind (wpAny_runValue (codeAny_builtin entry_proto_collect' ?_))
  show wpAny _ _ (do again (.builtin "list.__iadd__" ⟨[← newList [], .ref l], []⟩)) _ _ s
  refine wpAny_bind (wpAny_newList (wpAny_pure ⟨Code.quiet_builtin _ (by decide +kernel), codeAny_builtin entry_list_iadd' ?_⟩))
  show wpAny _ _ (Builtin.List.listExtendWith (.ref s.heap.objs.size) (.ref l) (.ref s.heap.objs.size)) _ _ { s with heap := s.heap.push (seqObj "list" #[] 0) }
  unfold Builtin.List.listExtendWith
  have ho' : (s.heap.push (seqObj "list" #[] 0)).get? l = some o := Heap.get?_push_of_some _ ho
  refine wpAny_bind (wpAny_typeOf (T := "tuple") ⟨o, ho', hc⟩ ?_)
  have ht : (Value.type "tuple" == Value.type "tuple") = true := by rfl
  rw [if_pos (by rw [ht]; simp)]
  refine wpAny_bind (listItems_at ho' hd ?_)
  refine wpAny_bind (listItems_at (xs := #[]) (n := 0) (Heap.get?_push_size _ rfl) rfl ?_)
  rw [if_neg (by simp)]
  refine wpAny_bind (listUpdate_at (xs := #[]) (n := 0) (Heap.get?_push_size _ rfl) rfl ?_ (Nat.zero_le _) (by show (#[] ++ vs.toArray).size ≤ sizeLine + 1; simp only [Array.size_append, List.size_toArray, List.length_nil]; omega))
  refine wpAny_pure ?_
  show wpAny (model prog w) A (do
      let o ← load s.heap.objs.size
      match o.data with
      | .seq xs _ => pure xs.toList
      | _ => unsupported "internal:collect") Q E { s with heap := (s.heap.push (seqObj "list" #[] 0)).update s.heap.objs.size (Obj.mapSeq (· ++ vs.toArray)) }
  refine wpAny_bind (wpAny_load (get?_update_seq (Heap.get?_push_size _ rfl) _) ?_)
  show wpAny _ _ (pure ((#[] : Array Value) ++ vs.toArray).toList) Q E _
  rw [show ((#[] : Array Value) ++ vs.toArray).toList = vs by simp]
  exact wpAny_pure h
theorem sorted_tup {l : Addr} {vs : List Value} {ltv : Value → Value → Bool} {Q : Value → Shared → Prop} (O : SrtO.Swo ltv) (hl : s.heap.IsTuple l vs.toArray) (hz : vs.length ≤ sizeLine)
    (hS : 2 ≤ vs.length → ∀ (h₁ : Heap) (a : Addr), h₁.get? a = some (seqObj "list" vs.toArray 0) → (∀ b o, s.heap.get? b = some o → b ≠ a ∧ h₁.get? b = some o) → SrtO.SortableO prog w A.in1.in1 { s with heap := h₁ } a vs ltv)
    (h : ∀ out : List Value, SrtO.Srtd ltv out → SrtO.Stb ltv out vs → Q (.ref (s.heap.objs.size + 1)) { s with heap := sortedAll s.heap vs out.toArray }) :
    wpAny (model prog w) A (call (.builtin "sorted") [.ref l]) Q E s := by
  refine Calls.call_function_entry kind_sorted plain_sorted entry_sorted (args_sorted1 _) ?_
  unfold Builtin.«sorted»
  refine wpAny_bind (m := checkCount "sorted" 1 1 _) (wpAny_pure ?_)
  refine wpAny_bind (collect_tup hl ?_ hz)
  refine wpAny_bind (wpAny_newList ?_ hz)
  have hsz : ((s.heap.push (seqObj "list" #[] 0)).update s.heap.objs.size (Obj.mapSeq (· ++ vs.toArray))).objs.size = s.heap.objs.size + 1 := by
    rw [Heap.size_update, size_push']
  have hoL : (((s.heap.push (seqObj "list" #[] 0)).update s.heap.objs.size (Obj.mapSeq (· ++ vs.toArray))).push (seqObj "list" vs.toArray 0)).get? (s.heap.objs.size + 1) = some (seqObj "list" vs.toArray 0) := by
    rw [← hsz]; exact Heap.get?_push_size _ rfl
  have keep : ∀ b o, s.heap.get? b = some o → b ≠ s.heap.objs.size + 1 ∧ (((s.heap.push (seqObj "list" #[] 0)).update s.heap.objs.size (Obj.mapSeq (· ++ vs.toArray))).push (seqObj "list" vs.toArray 0)).get? b = some o := fun b o q => by
    have hlt : b < s.heap.objs.size := Heap.lt_size q
    refine ⟨Nat.ne_of_lt (Nat.lt_succ_of_lt hlt), Heap.get?_push_of_some _ ?_⟩
    rw [Heap.get?_update_ne _ _ _ _ (Nat.ne_of_lt hlt)]
    exact Heap.get?_push_of_some _ q
  show wpAny _ _ _ _ _ { s with heap := ((s.heap.push (seqObj "list" #[] 0)).update s.heap.objs.size (Obj.mapSeq (· ++ vs.toArray))).push (seqObj "list" vs.toArray 0) }
  rw [hsz]
  refine wpAny_bind (wpAny_holding (wpAny_call_entry slot_list_sort ⟨_, hoL, rfl⟩ entry_list_sort (SrtO.list_sort_ord O hoL hz (fun h2 => hS h2 _ _ hoL keep) fun out hs hb => ⟨_, rfl, ?_⟩) (args_list_sort _)))
  exact wpAny_pure ⟨_, rfl, h out hs hb⟩
end
/-- sorted(t), t a tuple of ints -/
def rSortT (K : PySem.W.Frag) : List V → Hp → VK → Prop := fun vs H Q => ∃ (a : Addr) (ns : List Int), vs = [V.ref a] ∧ SqT K H a (ns.map V.int) ∧
  ∀ (ns' : List Int) (p : Addr), ns'.Perm ns → ns'.Pairwise (· ≤ ·) → H p = none → Q (.ref p) (upd H p (.lst (ns'.map V.int)))
section
variable {X : Cx}
theorem cr_sortT : CallR X (.builtin "sorted") (rSortT X.K) := by
  intro pins s σ H vs us Q I r h
  obtain ⟨a, ns, rfl, hs, q⟩ := h
  obtain ⟨its, rv, hl, hz⟩ := I.tuple hs
  rw [Vals.ref1 r]
  have hi := rv.ints
  refine sorted_tup SrtO.swo_int (show s.heap.IsTuple a its.toArray from hl) (by rw [← rv.length]; exact hz) (fun h2 h₁ a' _ _ => SrtO.ints_sortable hi h2) fun out h1 h2 => ?_
  obtain ⟨k1, k2, k3⟩ := SrtO.ints_out hi h1 h2
  obtain ⟨ep, he'⟩ := PyProof.Rows.sortedAll_at s.heap its out.toArray
  have hlen : ((out.map SrtO.iv).map V.int).length ≤ sizeLine := by
    rw [List.length_map, k2.length_eq]
    rw [List.length_map] at hz
    exact hz
  exact ⟨.ref _, upd H (s.heap.objs.size + 1) (.lst ((out.map SrtO.iv).map V.int)), I.laid (t' := s.toks) (fun _ _ => PyProof.Rows.sortedAll_old) (Nat.le_succ _) ⟨hlen, out, ep, vals_of_ints k1, he'⟩, rfl, q _ _ k2 k3 (I.hok.fresh (Nat.le_succ _))⟩
/-- X(), X an own exception class without own __init__ -/
theorem pmk_own0 {C : Addr} {bmB : List Value} {B newId initId : String} {x : Str} {p pos : Pos} (F : ExcBaseFacts B newId initId bmB) (q : PySem.W.excIn X.K C bmB newId = true) (gC : X.mg x = some (.ref C))
    (kC : PySem.W.keepIn X.K (.ref C) = true) (r : Raises X (.ref C)) (hg : Gl X x) (hdb : (x == ("__debug__" : Str)) = false := by decide) :
    PMk X (.Call (.Name x p) [] [] pos) (fun _ H Q => Q (.ref C) none H) := by
  intro pins s σ H Q I h
  refine wpAny_Call_Name_kw (ld_glob I hg gC ?_ hdb)
  refine PySem.W.callWith_K0 I.kIn kC ?_
  show wpAny _ _ (call (.ref C) []) _ _ _
  obtain ⟨bm, N, nm, qn, bs, hdct, sn, sub, ab, col, dd, k0, k1, k2, k3, k5, mN, hC, hN, hni, T⟩ := exc_obj I.kIn q
  refine wpAny_call_exc_subT F T hC hN hni (fun h' e hm => ?_) (Nat.zero_le _)
  exact mk_of I hm r h (I.hok.gone hm.new)
/-- len(set(t)), t a tuple of unlike ints -/
def tLenSetT (K : PySem.W.Frag) (ta : TE) : TE := fun σ H Q => ta σ H fun x H1 => ∃ (l : Addr) (ns : List Int), x = .ref l ∧ SqT K H1 l (ns.map V.int) ∧ ns.Nodup ∧ ns.length ≤ 1000 ∧ Q (.int (ns.length : Nat)) H1
theorem pe_lenSetT {a : Expr} {ta : TE} {p p2 q pos : Pos} (hg : Gl X "len") (hm : X.mg "len" = none) (hg2 : Gl X "set") (hm2 : X.mg "set" = none) (ha : PE X a ta) (hc : X.calm = true := by rfl)
    (na : starEach [a] X.env = (false, eval a X.env) :: starEach [] X.env := by rfl) : PE X (.Call (.Name "len" p) [.Call (.Name "set" p2) [a] [] q] [] pos) (tLenSetT X.K ta) := by
  refine ⟨fun pins s σ H Q I h => ?_⟩
  refine Call_ (ld_blt I hg hm boot_len ?_)
  refine PyProof.Rows.callWith_builtin1 (PyProof.Rows.args_cons ?_ rfl) rfl rfl
  refine Call_ (ld_blt I hg2 hm2 PyProof.Rows.boot_set ?_)
  refine PyProof.Rows.callWith_type1 (PyProof.Rows.args_cons (thn (ha.run pins s σ H _ I h) fun v s1 ⟨x, H1, I1, r1, q1⟩ => PyProof.Rows.args_nil ?_) na) na rfl
  obtain ⟨l, ns, rfl, hq, hnd, hl, q1⟩ := q1
  cases r1
  obtain ⟨its, r, pl, hz⟩ := I1.tuple hq
  refine call_set_tupI ns (I1.ok.hd hc) (show s1.heap.IsTuple l its.toArray from pl) (by simpa using RZ.intsAre_vals r) (by unfold scanBound; omega) fun h' tk c hS hcn hk => ?_
  refine PyProof.Rows.args_nil ?_
  obtain ⟨o, es, ep, t, ho, hex, hd, _, hkn, hks, hsz, hf, hn, _, _⟩ := hS
  have hp : (es.toList.map keyOf).Perm ns := (List.perm_ext_iff_of_nodup hkn hnd).mpr fun k => by
    rw [← hks k]
    simp
  have hlen : es.size = ns.length := by
    have e := hp.length_eq
    rw [List.length_map, Array.length_toList] at e
    exact e
  have I2 : Inv X pins σ H1 { s1 with heap := h', toks := tk } := I1.kept hk
  exact call_len_set ho hex hd hf (by omega) ⟨.int ns.length, H1, I2.tok _, ⟨_, by rw [hlen]⟩, q1⟩
end
/-! trees of values in the heap, what is new, comprehensions -/
/-! ### what is new behind H -/
def nw (H H' : Hp) : Hp := fun b => match H b with
  | some _ => none
  | none => H' b
theorem nw_of {H H' : Hp} {b : Addr} {o : HO} (h : H b = none) (h' : H' b = some o) : nw H H' b = some o := by
  unfold nw
  rw [h]
  exact h'
theorem of_nw {H H' : Hp} {b : Addr} {o : HO} (h : nw H H' b = some o) : H b = none ∧ H' b = some o := by
  unfold nw at h
  cases q : H b with
  | none =>
    rw [q] at h
    exact ⟨rfl, h⟩
  | some u =>
    rw [q] at h
    cases h
theorem nw_same {H H' : Hp} : Same (nw H H') H' := fun _ _ h => (of_nw h).2
theorem nw_sub {H H1 H2 : Hp} (h : ∀ b, H1 b = none → H b = none) : Same (nw H1 H2) (nw H H2) := fun _ _ q => nw_of (h _ (of_nw q).1) (of_nw q).2
theorem nw_back {H H1 H2 : Hp} (s : Same H H1) : Same (nw H1 H2) (nw H H2) := nw_sub fun _ h => s.free h
theorem nw_fwd {H H1 H2 : Hp} (s : Same H1 H2) : Same (nw H H1) (nw H H2) := fun b o h => nw_of (of_nw h).1 (s b o (of_nw h).2)
theorem same_new {H : Hp} {p : Addr} {o : HO} (h : H p = none) : Same H (upd H p o) := fun b u q => by
  rw [upd_ne (ne_of_none q h)]
  exact q
/-- a fresh object may change -/
theorem same_mut {H H' : Hp} {p : Addr} {o : HO} (e : Same H H') (h : H p = none) : Same H (upd H' p o) := fun a u ha => by
  rw [upd_ne (ne_of_none ha h)]
  exact e a u ha
theorem same_t {K : PySem.W.Frag} {H H' : Hp} {a : Addr} {xs : List V} (e : Same H H') (h : SqT K H a xs) : SqT K H' a xs := by
  rcases h with (h | ⟨o, h⟩) | h
  · exact .inl (.inl (e _ _ h))
  · exact .inl (.inr ⟨o, e _ _ h⟩)
  · exact .inr h
/-- a promise's end: what stood stands, the answer's own objects are new -/
def RetN (R : V → Hp → Prop) (H : Hp) (Q : VK) : Prop := ∀ v H', Same H H' → R v (nw H H') → Q v H'
/-- the answer holds no object -/
def RetV (v : V) (H : Hp) (Q : VK) : Prop := ∀ H', Same H H' → Q v H'
abbrev Mono (R : V → Hp → Prop) : Prop := ∀ v H H', Same H H' → R v H → R v H'
/-! ### trees -/
inductive Tr where
  | leaf (v : V)
  | node (l : Bool) (ts : List Tr)
def ho (l : Bool) (xs : List V) : HO := match l with
  | true => .lst xs
  | false => .tup xs
mutual
inductive Rp (H : Hp) : V → Tr → Prop
  | leaf {v : V} : flatV v = true → Rp H v (.leaf v)
  | node {l : Bool} {a : Addr} {xs : List V} {ts : List Tr} : H a = some (ho l xs) → xs.length ≤ 1000 → RpAll H xs ts → Rp H (.ref a) (.node l ts)
inductive RpAll (H : Hp) : List V → List Tr → Prop
  | nil : RpAll H [] []
  | cons {v : V} {vs : List V} {t : Tr} {ts : List Tr} : Rp H v t → RpAll H vs ts → RpAll H (v :: vs) (t :: ts)
end
mutual
theorem Rp.mono {H H' : Hp} (e : Same H H') : ∀ {v : V} {t : Tr}, Rp H v t → Rp H' v t
  | _, _, .leaf h => .leaf h
  | _, _, .node h n r => .node (e _ _ h) n (RpAll.mono e r)
theorem RpAll.mono {H H' : Hp} (e : Same H H') : ∀ {vs : List V} {ts : List Tr}, RpAll H vs ts → RpAll H' vs ts
  | _, _, .nil => .nil
  | _, _, .cons h r => .cons (Rp.mono e h) (RpAll.mono e r)
end
theorem RpAll.length {H : Hp} : ∀ {vs : List V} {ts : List Tr}, RpAll H vs ts → vs.length = ts.length
  | _, _, .nil => rfl
  | _, _, .cons _ r => congrArg (· + 1) (RpAll.length r)
theorem RpAll.get {H : Hp} : ∀ {vs : List V} {ts : List Tr} {i : Nat} {v : V}, RpAll H vs ts → vs[i]? = some v → ∃ t, ts[i]? = some t ∧ Rp H v t
  | _, _, _, _, .nil, e => by simp at e
  | _, _, 0, _, .cons r _, e => by
    simp at e
    subst e
    exact ⟨_, rfl, r⟩
  | _, _, i + 1, v, .cons _ r, e => by
    obtain ⟨t, h1, h2⟩ := RpAll.get (i := i) (v := v) r (by simpa using e)
    exact ⟨t, by simpa using h1, h2⟩
theorem RpAll.got {H : Hp} : ∀ {vs : List V} {ts : List Tr} {i : Nat} {t : Tr}, RpAll H vs ts → ts[i]? = some t → ∃ v, vs[i]? = some v ∧ Rp H v t
  | _, _, _, _, .nil, e => by simp at e
  | _, _, 0, _, .cons r _, e => by
    simp at e
    subst e
    exact ⟨_, rfl, r⟩
  | _, _, i + 1, t, .cons _ r, e => by
    obtain ⟨v, h1, h2⟩ := RpAll.got (i := i) (t := t) r (by simpa using e)
    exact ⟨v, by simpa using h1, h2⟩
theorem RpAll.of {H : Hp} : ∀ {vs : List V} {ts : List Tr}, vs.length = ts.length → (∀ (i : Nat) v t, vs[i]? = some v → ts[i]? = some t → Rp H v t) → RpAll H vs ts
  | [], [], _, _ => .nil
  | [], _ :: _, h, _ => by simp at h
  | _ :: _, [], h, _ => by simp at h
  | v :: vs, t :: ts, h, k => .cons (k 0 v t rfl rfl) (RpAll.of (by simpa using h) fun i v t h1 h2 => k (i + 1) v t (by simpa using h1) (by simpa using h2))
theorem RpAll.flat {H : Hp} : ∀ {vs : List V}, (∀ v ∈ vs, flatV v = true) → RpAll H vs (vs.map Tr.leaf)
  | [], _ => .nil
  | v :: vs, h => .cons (.leaf (h v List.mem_cons_self)) (RpAll.flat fun u hu => h u (List.mem_cons_of_mem _ hu))
theorem RpAll.unflat {H : Hp} : ∀ {vs us : List V}, RpAll H us (vs.map Tr.leaf) → us = vs
  | [], _, .nil => rfl
  | v :: vs, _, .cons h r => by
    cases h
    rw [RpAll.unflat r]
theorem RpAll.append {H : Hp} : ∀ {xs ys : List V} {ts us : List Tr}, RpAll H xs ts → RpAll H ys us → RpAll H (xs ++ ys) (ts ++ us)
  | _, _, _, _, .nil, r => r
  | _, _, _, _, .cons h q, r => .cons h (RpAll.append q r)
theorem RpAll.rep {H : Hp} {v : V} {t : Tr} (h : Rp H v t) : ∀ n : Nat, RpAll H (List.replicate n v) (List.replicate n t)
  | 0 => .nil
  | n + 1 => .cons h (RpAll.rep h n)
mutual
def dep : Tr → Nat
  | .leaf _ => 0
  | .node _ ts => deps ts + 1
def deps : List Tr → Nat
  | [] => 0
  | t :: ts => max (dep t) (deps ts)
end
theorem deps_le : ∀ {ts : List Tr} {t : Tr}, t ∈ ts → dep t ≤ deps ts
  | u :: ts, t, h => by
    show dep t ≤ max (dep u) (deps ts)
    rcases List.mem_cons.mp h with e | h
    · rw [e]
      exact Nat.le_max_left _ _
    · exact Nat.le_trans (deps_le h) (Nat.le_max_right _ _)
theorem le_deps {n : Nat} : ∀ {ts : List Tr}, (∀ t ∈ ts, dep t ≤ n) → deps ts ≤ n
  | [], _ => Nat.zero_le _
  | t :: ts, h => Nat.max_le.mpr ⟨h t List.mem_cons_self, le_deps fun u hu => h u (List.mem_cons_of_mem _ hu)⟩
mutual
/-- all lists made tuples, all tuples made lists -/
def conv (l : Bool) : Tr → Tr
  | .leaf v => .leaf v
  | .node _ ts => .node l (convs l ts)
def convs (l : Bool) : List Tr → List Tr
  | [] => []
  | t :: ts => conv l t :: convs l ts
end
theorem convs_eq (l : Bool) : ∀ ts : List Tr, convs l ts = ts.map (conv l)
  | [] => rfl
  | t :: ts => by
    show conv l t :: convs l ts = _
    rw [convs_eq l ts]
    rfl
/-! ### what kind a tree is -/
def tyT : Tr → String
  | .leaf .non => "NoneType"
  | .leaf (.bl _) => "bool"
  | .leaf (.int _) => "int"
  | .leaf (.str _) => "str"
  | .leaf _ => "NoneType"
  | .node true _ => "list"
  | .node false _ => "tuple"
theorem Rp.ty {K : PySem.W.Frag} {H : Hp} {v : V} {t : Tr} (r : Rp H v t) : TyX K H v (.type (tyT t)) := by
  cases r with
  | leaf h =>
    cases v with
    | non => exact .base .non
    | bl b => exact .base (.bl b)
    | int i => exact .base (.int i)
    | str x => exact .base (.str x)
    | _ => cases h
  | @node l a xs ts h _ _ =>
    cases l with
    | true => exact .base (.lst h)
    | false => exact .base (.tup h)
/-- isinstance, sealed -/
structure SIsi (K : PySem.W.Frag) (xs : List V) (H : Hp) (Q : VK) : Prop where
  go : rIsi K xs H Q
structure SIsiT (K : PySem.W.Frag) (xs : List V) (H : Hp) (Q : VK) : Prop where
  go : rIsiT K xs H Q
theorem isi_t {K : PySem.W.Frag} {H : Hp} {v : V} {t : Tr} (ty : String) {C : String} {b : Bool} {Q : VK} (r : Rp H v t) (e : tyT t = ty) (h : kitB ty C = some b) (q : Q (.bl b) H) : SIsi K [v, .ty C] H Q :=
  ⟨v, .ty C, _, _, b, rfl, .ty C, r.ty, kit_ty (by rw [e]; exact h), q⟩
theorem isi_2 {K : PySem.W.Frag} {H : Hp} {v : V} {t : Tr} (ty : String) {C D : String} {p : Addr} {b b2 : Bool} {Q : VK} (r : Rp H v t) (e : tyT t = ty) (hp : H p = some (.tup [.ty C, .ty D])) (h : kitB ty C = some b) (h2 : kitB ty D = some b2) (q : Q (.bl (b || b2)) H) : SIsiT K [v, .ref p] H Q :=
  ⟨v, p, _, _, _, _, rfl, hp, .cons (.ty C) (.cons (.ty D) .nil), r.ty, kitAny_cons (kit_ty (by rw [e]; exact h)) (fun e1 => kitAny_cons (b := b2) (kit_ty (by rw [e]; exact h2)) (fun e2 => by rw [e1, e2]; exact kitAny_nil) (fun e2 => by rw [e1, e2]; rfl)) (fun e1 => by rw [e1]; rfl), q⟩
/-! ### what is walked -/
structure Runs (J : It) (H : Hp) (xs : List V) : Prop where
  go : ∀ (i : Nat) (H' : Hp), i < xs.length → Same H H' → J.go i H'
  stop : ∀ H' : Hp, Same H H' → J.stop xs.length H'
  yld : ∀ (i : Nat) (H' : Hp) (x : V) (H'' : Hp), Same H H' → J.yld i H' x H'' → i < xs.length → H'' = H' ∧ xs[i]? = some x
theorem runs_tup {K : PySem.W.Frag} {H : Hp} {a : Addr} {xs : List V} (h : SqT K H a xs) : Runs (Itt K a) H xs :=
  ⟨fun i H' hi s => ⟨xs, xs[i], same_t s h, List.getElem?_eq_getElem hi⟩, fun H' s => ⟨xs, same_t s h, Nat.le_refl _⟩, fun i H' x H'' s y _ => ⟨y.1, y.2 xs (same_t s h)⟩⟩
theorem runs_list {K : PySem.W.Frag} {H : Hp} {a : Addr} {xs : List V} (h : SqL K H a xs) : Runs (Itl K a) H xs :=
  ⟨fun i H' hi s => ⟨xs, xs[i], s.seq h, List.getElem?_eq_getElem hi⟩, fun H' s => ⟨xs, s.seq h, Nat.le_refl _⟩, fun i H' x H'' s y _ => ⟨y.1, y.2 xs (s.seq h)⟩⟩
/-- a number as a value -/
def nV (k : Nat) : V := .int (k : Int)
theorem runs_range {H : Hp} (n : Nat) : Runs (Itr 0 n) H ((List.range n).map nV) :=
  ⟨fun i H' hi s => (by simpa using hi : i < n), fun H' s => (by simp : n ≤ ((List.range n).map nV).length), fun i H' x H'' s y hi => ⟨y.1, by
    have hi' : i < n := by simpa using hi
    rw [y.2, List.getElem?_map, List.getElem?_range hi']
    show some (V.int (i : Int)) = some (V.int (0 + (i : Int)))
    rw [Int.zero_add]⟩⟩
/-! ### list comprehensions -/
def lcIn (J : It) (g : TG) (tt : TT) (te : TE) (vs : List Nat) (σ : L2.St) (H1 : Hp) (Q : VK) : Prop := ∀ D, H1 D = none → ∃ W : Nat → Nat → Hp → Prop, (∃ m, W 0 m (upd H1 D (.lst []))) ∧ ∀ i m H, W i m H →
  (J.stop i H ∧ Q (.ref D) H) ∨ (J.go i H ∧ ∃ Nx : Hp → Prop, (∀ H', Nx H' → ∃ m', m' < m ∧ W (i + 1) m' H') ∧ ∀ x H', J.yld i H x H' → g x (wipe σ vs) H' fun σ2 H2 => wipe σ2 vs = wipe σ vs ∧ tt σ2 H2 fun b H3 =>
    if b = true then te σ2 H3 fun y H4 => ∃ acc, H4 D = some (.lst acc) ∧ acc.length < sizeLine ∧ Nx (upd H4 D (.lst (acc ++ [y]))) else Nx H3)
def tLcI (wi : TI) (g : TG) (tt : TT) (te : TE) (vs : List Nat) : TE := fun σ H Q => wi σ H fun J H1 => lcIn J g tt te vs σ H1 Q
theorem pe_lcI {X : Cx} {elt tg iter : Expr} {ifs : List Expr} {scope : Scope} {own : List (Str × Nat)} {pos : Pos} {wi : TI} {g : TG} {tt : TT} {te : TE} (hc : X.calm = true) (hN : X.N.Nodup) (hi : PI X tg iter wi) (ok : BlkOk X.N X.env.scope scope own)
    (hg : ∀ (s : Shared) (H : Hp) (C : Addr) (cl : List (Str × Addr)) (fp : List Addr), PG (X.blk s H scope (compEnvC scope cl C X.env) fp) tg g) (ht : ∀ (s : Shared) (H : Hp) (C : Addr) (cl : List (Str × Addr)) (fp : List Addr), PTs (X.blk s H scope (compEnvC scope cl C X.env) fp) ifs tt)
    (he : ∀ (s : Shared) (H : Hp) (C : Addr) (cl : List (Str × Addr)) (fp : List Addr), PE (X.blk s H scope (compEnvC scope cl C X.env) fp) elt te) (hs : ∀ x, foldedSetIterable iter X.env x = pure x := by intro _; rfl) :
    PE X (.ListComp elt [⟨tg, iter, ifs, 0⟩] scope pos) (tLcI wi g tt te (own.map (·.2))) := pe_lc hc hN hi ok hg ht he hs
theorem ps_setLcI {X : Cx} {i : Nat} {y : Str} {py : Pos} {elt tg iter : Expr} {ifs : List Expr} {scope : Scope} {own : List (Str × Nat)} {pos spos : Pos} {wi : TI} {g : TG} {tt : TT} {te : TE} (hc : X.calm = true) (hN : X.N.Nodup) (hy : X.N[i]? = some y) (hyl : X.env.scope.names.lookup y = some .local)
    (hsw : swapsWith (.ListComp elt [⟨tg, iter, ifs, 0⟩] scope pos) (some (.Name y py)) spos.line X.env = pure true) (hi : PI X tg iter wi) (ok : BlkOk X.N X.env.scope scope own)
    (hg : ∀ (s : Shared) (H : Hp) (C : Addr) (cl : List (Str × Addr)) (fp : List Addr), PG (X.blk s H scope (compEnvC scope cl C X.env) fp) tg g) (ht : ∀ (s : Shared) (H : Hp) (C : Addr) (cl : List (Str × Addr)) (fp : List Addr), PTs (X.blk s H scope (compEnvC scope cl C X.env) fp) ifs tt)
    (he : ∀ (s : Shared) (H : Hp) (C : Addr) (cl : List (Str × Addr)) (fp : List Addr), PE (X.blk s H scope (compEnvC scope cl C X.env) fp) elt te) (hs : ∀ x, foldedSetIterable iter X.env x = pure x := by intro _; rfl) :
    PS X (.Assign [.Name y py] (.ListComp elt [⟨tg, iter, ifs, 0⟩] scope pos) spos) (tAsg (tLcI wi g tt te (own.map (·.2))) (gName i)) := ps_setLc hc hN hy hyl hsw hi ok hg ht he hs
theorem lc_any {J : It} {g : TG} {tt : TT} {te : TE} {vs : List Nat} {σ : L2.St} {H1 : Hp} {Q : VK} (n : Nat) (Pv : Addr → Nat → Hp → Prop) (h0 : ∀ D, H1 D = none → Pv D 0 (upd H1 D (.lst [])))
    (hgo : ∀ D i H, i < n → Pv D i H → J.go i H) (hst : ∀ D H, Pv D n H → J.stop n H)
    (hs : ∀ D i H x H', i < n → Pv D i H → J.yld i H x H' → g x (wipe σ vs) H' fun σ2 H2 => wipe σ2 vs = wipe σ vs ∧ tt σ2 H2 fun b H3 =>
      if b = true then te σ2 H3 fun y H4 => ∃ acc, H4 D = some (.lst acc) ∧ acc.length < sizeLine ∧ Pv D (i + 1) (upd H4 D (.lst (acc ++ [y]))) else Pv D (i + 1) H3)
    (hd : ∀ D H, Pv D n H → Q (.ref D) H) : lcIn J g tt te vs σ H1 Q := by
  intro D hD
  refine ⟨fun i m H => m = n - i ∧ i ≤ n ∧ Pv D i H, ⟨n, by simp, Nat.zero_le _, h0 D hD⟩, ?_⟩
  rintro i m H ⟨rfl, hi, p⟩
  by_cases hlt : i < n
  · exact .inr ⟨hgo D i H hlt p, Pv D (i + 1), fun H' p' => ⟨n - (i + 1), by omega, rfl, hlt, p'⟩, fun x H' y => hs D i H x H' hlt p y⟩
  · have e : i = n := by omega
    subst e
    exact .inl ⟨hst D H p, hd D H p⟩
theorem sz_lt {n : Nat} (h : n < 100000) : n < sizeLine := Nat.lt_of_lt_of_le h (by decide)
theorem sz_le {n : Nat} (h : n ≤ 100000) : n ≤ sizeLine := Nat.le_trans h (by decide)
/-- [e for x in xs] -/
theorem lc_map {J : It} {te : TE} {vs : List Nat} {σ : L2.St} {H : Hp} {Q : VK} {xs : List V} {j : Nat} (rn : Runs J H xs) (R : Nat → V → Hp → Prop) (mono : ∀ i, Mono (R i)) (hn : xs.length ≤ 10000)
    (hw : ∀ x, wipe ((wipe σ vs).set j (some x)) vs = wipe σ vs)
    (he : ∀ i x H2 (Q : VK), xs[i]? = some x → Same H H2 → RetN (R i) H2 Q → te ((wipe σ vs).set j (some x)) H2 Q)
    (k : ∀ D ys H', H D = none → Same H H' → H' D = some (.lst ys) → ys.length = xs.length → (∀ i y, ys[i]? = some y → R i y (nw H H')) → Q (.ref D) H') : lcIn J (gName j) tYes te vs σ H Q := by
  refine lc_any xs.length (fun D i H' => H D = none ∧ Same H H' ∧ ∃ ys, H' D = some (.lst ys) ∧ ys.length = i ∧ ∀ (i : Nat) y, ys[i]? = some y → R i y (nw (upd H D (.lst [])) H'))
    (fun D hD => ⟨hD, same_new hD, [], upd_same, rfl, fun i y h => by simp at h⟩) (fun D i H' hi p => rn.go i H' hi p.2.1) (fun D H' p => rn.stop H' p.2.1) ?_ ?_
  · rintro D i H' x H'' hi ⟨hD, s1, ys, hy, hl, hR⟩ y
    obtain ⟨rfl, hx⟩ := rn.yld i H' x H'' s1 y hi
    refine ⟨hw x, ?_⟩
    show te _ H'' _
    refine he i x H'' _ hx s1 fun v H4 s4 r => ⟨ys, s4 D _ hy, sz_lt (by omega), hD, same_mut (s1.trans s4) hD, _, upd_same, by simp [hl], fun i' y' h => ?_⟩
    have up : Same (nw (upd H D (.lst [])) H4) (nw (upd H D (.lst [])) (upd H4 D (.lst (ys ++ [v])))) := fun b o q => by
      obtain ⟨q1, q2⟩ := of_nw q
      have nb : b ≠ D := fun e => by rw [e, upd_same] at q1; cases q1
      exact nw_of q1 (by rw [upd_ne nb]; exact q2)
    by_cases h' : i' < ys.length
    · rw [List.getElem?_append_left h'] at h
      exact mono i' y' _ _ ((nw_fwd s4).trans up) (hR i' y' h)
    · have e : i' = i := by
        have := (List.getElem?_eq_some_iff.mp h).1
        rw [List.length_append, List.length_singleton] at this
        omega
      subst e
      rw [List.getElem?_append_right (by omega), hl, Nat.sub_self] at h
      have e : v = y' := Option.some.inj h
      subst e
      refine mono i' v _ _ (Same.trans (nw_sub fun b q => ?_) up) r
      have nb : b ≠ D := fun e => by rw [e, hy] at q; cases q
      rw [upd_ne nb]
      exact s1.free q
  · rintro D H' ⟨hD, s1, ys, hy, hl, hR⟩
    exact k D ys H' hD s1 hy hl fun i y h => mono i y _ _ (nw_back (same_new hD)) (hR i y h)
/-- [x for x in xs if t] -/
theorem lc_flt {α : Type} {J : It} {tt : TT} {vs : List Nat} {σ : L2.St} {H : Hp} {Q : VK} {l : List α} {X : α → V} {j : Nat} (rn : Runs J H (l.map X)) (p : α → Bool) (hn : l.length ≤ 10000)
    (hw : ∀ x, wipe ((wipe σ vs).set j (some x)) vs = wipe σ vs) (hj : ∀ x, ((wipe σ vs).set j (some x))[j]? = some (some x))
    (ht : ∀ a H2 (Q : Bool → Hp → Prop), a ∈ l → Same H H2 → (∀ H', Same H2 H' → Q (p a) H') → tt ((wipe σ vs).set j (some (X a))) H2 Q)
    (k : ∀ D H', H D = none → Same H H' → H' D = some (.lst ((l.filter p).map X)) → Q (.ref D) H') : lcIn J (gName j) tt (tVar j) vs σ H Q := by
  have hl : (l.map X).length = l.length := List.length_map _
  refine lc_any l.length (fun D i H' => H D = none ∧ Same H H' ∧ H' D = some (.lst (((l.take i).filter p).map X)))
    (fun D hD => ⟨hD, same_new hD, upd_same⟩) (fun D i H' hi p => rn.go i H' (by rw [hl]; exact hi) p.2.1) (fun D H' p => by have q := rn.stop H' p.2.1; rw [hl] at q; exact q) ?_ ?_
  · rintro D i H' x H'' hi ⟨hD, s1, hy⟩ y
    obtain ⟨rfl, hx⟩ := rn.yld i H' x H'' s1 y (by rw [hl]; exact hi)
    have e1 : l[i]? = some l[i] := List.getElem?_eq_getElem hi
    rw [List.getElem?_map, e1] at hx
    have ex : X l[i] = x := Option.some.inj hx
    subst ex
    have et : l.take (i + 1) = l.take i ++ [l[i]] := by rw [List.take_add_one, e1]; rfl
    refine ⟨hw _, ht _ _ _ (List.getElem_mem hi) s1 fun H3 s3 => ?_⟩
    have s13 := s1.trans s3
    cases hp : p l[i] with
    | true =>
      rw [if_pos rfl]
      refine ⟨_, hj _, _, s3 D _ hy, sz_lt ?_, hD, same_mut s13 hD, ?_⟩
      · have h1 := List.length_filter_le p (l.take i)
        have h2 : (l.take i).length ≤ l.length := by rw [List.length_take]; omega
        rw [List.length_map]
        omega
      · rw [upd_same, et, List.filter_append, List.map_append, List.filter_cons, if_pos hp]
        rfl
    | false =>
      rw [if_neg (by decide)]
      refine ⟨hD, s13, ?_⟩
      rw [s3 D _ hy, et, List.filter_append, List.filter_cons, if_neg (by rw [hp]; decide)]
      simp
  · rintro D H' ⟨hD, s1, hy⟩
    rw [List.take_length] at hy
    exact k D H' hD s1 hy
/-- rows of numbers, of places, of what is taken -/
theorem flat_nV (k : Nat) : flatV (nV k) = true := rfl
def oV : Option Int → V
  | none => .non
  | some i => .int i
theorem flat_oV (o : Option Int) : flatV (oV o) = true := by cases o <;> rfl
def rowT (l : Bool) (row : List Nat) : Tr := .node l ((row.map nV).map Tr.leaf)
def pairT (l : Bool) (g : Int × Int) : Tr := .node l [.leaf (.int g.1), .leaf (.int g.2)]
def webT (l : Bool) (m : Int) (gs : List (Int × Int)) : Tr := .node l [.leaf (.int m), .node l (gs.map (pairT l))]
theorem conv_pair (l l' : Bool) (g : Int × Int) : conv l' (pairT l g) = pairT l' g := rfl
theorem conv_web (l l' : Bool) (m : Int) (gs : List (Int × Int)) : conv l' (webT l m gs) = webT l' m gs := by
  show Tr.node l' [.leaf (.int m), .node l' (convs l' (gs.map (pairT l)))] = _
  rw [convs_eq, List.map_map]
  rfl
theorem conv_row (l l' : Bool) (row : List Nat) : conv l' (rowT l row) = rowT l' row := by
  show Tr.node l' (convs l' ((row.map nV).map Tr.leaf)) = _
  rw [convs_eq, List.map_map]
  rfl
theorem dep_web (l : Bool) (m : Int) (gs : List (Int × Int)) : dep (webT l m gs) ≤ 3 := by
  show max 0 (max (deps (gs.map (pairT l)) + 1) 0) + 1 ≤ 3
  have h : deps (gs.map (pairT l)) ≤ 1 := le_deps fun t ht => by
    obtain ⟨g, _, rfl⟩ := List.mem_map.mp ht
    exact Nat.le_refl 1
  omega
theorem dep_row (l : Bool) (row : List Nat) : dep (rowT l row) ≤ 1 := by
  show deps ((row.map nV).map Tr.leaf) + 1 ≤ 1
  have h : deps ((row.map nV).map Tr.leaf) ≤ 0 := le_deps fun t ht => by
    obtain ⟨g, _, rfl⟩ := List.mem_map.mp ht
    exact Nat.le_refl 0
  omega
theorem tree_of {H : Hp} {l : Bool} {a : Addr} {ys : List V} {ts : List Tr} (f : Tr → Tr) (hl : ys.length = ts.length) (hn : ys.length ≤ 1000) (ha : H a = some (ho l ys)) (hR : ∀ (i : Nat) (y : V), ys[i]? = some y → ∃ t, ts[i]? = some t ∧ Rp H y (f t)) : Rp H (.ref a) (.node l (ts.map f)) :=
  .node ha hn (RpAll.of (by rw [hl, List.length_map]) fun i v t h1 h2 => by
    obtain ⟨u, e1, e2⟩ := hR i v h1
    rw [List.getElem?_map, e1] at h2
    cases Option.some.inj h2
    exact e2)
/-- a WEB of tuples at v -/
structure WebAt (H : Hp) (v : V) (m : Int) (gs : List (Int × Int)) (a b : Addr) (ps : List V) : Prop where
  v : v = .ref a
  a : H a = some (.tup [.int m, .ref b])
  b : H b = some (.tup ps)
  len : ps.length = gs.length
  at_ : ∀ (i : Nat) g, gs[i]? = some g → ∃ p, ps[i]? = some (.ref p) ∧ H p = some (.tup [.int g.1, .int g.2])
theorem Rp.pair {H : Hp} {v : V} {g : Int × Int} (r : Rp H v (pairT false g)) : ∃ p, v = .ref p ∧ H p = some (.tup [.int g.1, .int g.2]) := by
  unfold pairT at r
  cases r with
  | node h _ r =>
    cases r with
    | cons h1 r =>
      cases r with
      | cons h2 r =>
        cases r
        cases h1
        cases h2
        exact ⟨_, rfl, h⟩
theorem Rp.web {H : Hp} {v : V} {m : Int} {gs : List (Int × Int)} (r : Rp H v (webT false m gs)) : ∃ a b ps, WebAt H v m gs a b ps := by
  unfold webT at r
  cases r with
  | node h _ r =>
    cases r with
    | cons h1 r =>
      cases r with
      | cons h2 r =>
        cases r
        cases h1
        cases h2 with
        | node hb _ rb =>
          refine ⟨_, _, _, rfl, h, hb, ?_, fun i g hg => ?_⟩
          · rw [rb.length, List.length_map]
          · obtain ⟨v, h1, h2⟩ := rb.got (i := i) (t := pairT false g) (by rw [List.getElem?_map, hg]; rfl)
            obtain ⟨p, rfl, h3⟩ := h2.pair
            exact ⟨p, h1, h3⟩
theorem Rp.row {H : Hp} {v : V} {l : Bool} {row : List Nat} (r : Rp H v (rowT l row)) : ∃ a, v = .ref a ∧ H a = some (ho l (row.map nV)) := by
  unfold rowT at r
  cases r with
  | node h _ r =>
    rw [r.unflat] at h
    exact ⟨_, rfl, h⟩
theorem row_rp {H : Hp} {a : Addr} {l : Bool} {row : List Nat} (h : H a = some (ho l (row.map nV))) (hn : row.length ≤ 1000) : Rp H (.ref a) (rowT l row) :=
  .node h (by rw [List.length_map]; exact hn) (RpAll.flat fun v hv => by
    obtain ⟨k, _, rfl⟩ := List.mem_map.mp hv
    rfl)
theorem WebAt.mono {H H' : Hp} {v : V} {m : Int} {gs : List (Int × Int)} {a b : Addr} {ps : List V} (w : WebAt H v m gs a b ps) (s : Same H H') : WebAt H' v m gs a b ps :=
  ⟨w.v, s _ _ w.a, s _ _ w.b, w.len, fun i g hg => by
    obtain ⟨p, h1, h2⟩ := w.at_ i g hg
    exact ⟨p, h1, s _ _ h2⟩⟩
/-! the text, what the top has written, calls -/
def top (i : Nat) : Stmt := PySem.Challenge.pw_leftwithout_k32_whole_who_is_helped.main.body.getD i (.Pass ⟨0, 0, 0, 0⟩)
abbrev FnP (K : PySem.W.Frag) (x : Str) (st : Stmt) (f : Addr) (fd : FuncData) : Prop := FunD K x x (defArgs st) (defBody st) (defScope st) [] [] f fd
/-- the def x of the top's i-th statement stands -/
def At (K : PySem.W.Frag) (mg : Str → Option Value) (x : Str) (i : Nat) : Prop := ∃ f fd, FnP K x (top i) f fd ∧ mg x = some (.ref f)
/-- no name of the top hides these -/
structure Free (mg : Str → Option Value) : Prop where
  len : mg "len" = none
  set : mg "set" = none
  tuple : mg "tuple" = none
  list : mg "list" = none
  isinstance : mg "isinstance" = none
  int : mg "int" = none
  bool : mg "bool" = none
  str : mg "str" = none
  range : mg "range" = none
  all : mg "all" = none
  sorted : mg "sorted" = none
  zip : mg "zip" = none
  enumerate : mg "enumerate" = none
  min : mg "min" = none
  abs : mg "abs" = none
  ValueError : mg "ValueError" = none
/-- where the def lies -/
def Lies (K : PySem.W.Frag) (f : Addr) (fd : FuncData) : Prop := ∃ oc od osl, K.lookup f = some ⟨oc, od, .func fd, osl⟩
theorem FnP.lies {K : PySem.W.Frag} {x : Str} {st : Stmt} {f : Addr} {fd : FuncData} (F : FnP K x st f fd) : Lies K f fd := by
  obtain ⟨oc, od, _, _, _, _, _, _, _, osl, _, lk, _⟩ := F.ex
  exact ⟨oc, od, osl, lk⟩
theorem Lies.one {K : PySem.W.Frag} {f : Addr} {fd fe : FuncData} (h : Lies K f fd) (g : Lies K f fe) : fd = fe := by
  obtain ⟨_, _, _, h⟩ := h
  obtain ⟨_, _, _, g⟩ := g
  rw [h] at g
  injection g with g
  injection g with _ _ g _
  injection g
/-- the def x keeps its promise; its parameters take their values by position -/
def Has (P : Program) (w : World) (K : PySem.W.Frag) (mg : Str → Option Value) (base : Heap) (CX : CXT) (k : Nat) (x : Str) (ps : List Str) (sp : Sp) : Prop :=
  ∃ f fd, mg x = some (.ref f) ∧ PySem.W.keepIn K (.ref f) = true ∧ Binds K fd ps [] ∧ FnOk P w K mg base CX k f fd ps sp ∧ Lies K f fd
section
variable {P : Program} {w : World} {K : PySem.W.Frag} {mg : Str → Option Value} {base : Heap}
theorem Has.mk0 {x : Str} {i : Nat} {N ps : List Str} {k : Nat} {sp : Sp} (F : At K mg x i) (S : FnScope N ps (defScope (top i)))
    (hb : ∀ (kV doc pm : Value) (an : Option Addr) (cdv ct : Value) (us : List Value), us.length = ps.length → bindArgs (PySem.W.fnOf x x (defArgs (top i)) (defBody (top i)) (defScope (top i)) .none kV doc pm an cdv ct) ⟨us, []⟩ = pure (ps.zip us))
    (len : ∀ vs H Q E, sp vs H Q E → vs.length = ps.length)
    (hbody : ∀ (f : Addr) (cdv : Value) (A : Around) (outer : List Env) (s : Shared) (H : Hp) (vs : List V) (Q : VK) (E : XK), Room k (A.deeper (envOfC x (defScope (top i)) s.heap.objs.size f cdv)) → sp vs H Q E →
      ∃ t, PSs (cxOf CX0 P w K mg base N x (defScope (top i)) f cdv A outer s H E).nox (defBody (top i)) t ∧ t { nx := fun _ H' => Q .non H', rt := Q } (start N vs) H) : Has P w K mg base CX0 (k + 1) x ps sp := by
  obtain ⟨f, fd, F, g⟩ := F
  refine ⟨f, fd, g, F.kp, F.bindsN hb, F.ok S len fun cdv A outer s H vs Q E hr h => ?_, FnP.lies F⟩
  obtain ⟨t, h1, h2⟩ := hbody f cdv A outer s H vs Q E hr h
  exact ⟨t, h1.nox, h2⟩
theorem Has.mkX {x : Str} {i : Nat} {N ps : List Str} {k : Nat} {sp : Sp} (F : At K mg x i) (S : FnScope N ps (defScope (top i)))
    (hb : ∀ (kV doc pm : Value) (an : Option Addr) (cdv ct : Value) (us : List Value), us.length = ps.length → bindArgs (PySem.W.fnOf x x (defArgs (top i)) (defBody (top i)) (defScope (top i)) .none kV doc pm an cdv ct) ⟨us, []⟩ = pure (ps.zip us))
    (len : ∀ vs H Q E, sp vs H Q E → vs.length = ps.length)
    (hbody : ∀ (f : Addr) (cdv : Value) (A : Around) (outer : List Env) (s : Shared) (H : Hp) (vs : List V) (Q : VK) (E : XK), Room k (A.deeper (envOfC x (defScope (top i)) s.heap.objs.size f cdv)) → sp vs H Q E →
      ∃ t, PSs (cxOf (L2.CX P w) P w K mg base N x (defScope (top i)) f cdv A outer s H E) (defBody (top i)) t ∧ t { nx := fun _ H' => Q .non H', rt := Q } (start N vs) H) : Has P w K mg base (L2.CX P w) (k + 1) x ps sp := by
  obtain ⟨f, fd, F, g⟩ := F
  exact ⟨f, fd, g, F.kp, F.bindsN hb, F.ok S len fun cdv A outer s H vs Q E hr h => hbody f cdv A outer s H vs Q E hr h, FnP.lies F⟩
theorem Has.mono {CX : CXT} {j k : Nat} {x : Str} {ps : List Str} {sp : Sp} (h : Has P w K mg base CX j x ps sp) (hjk : j ≤ k) : Has P w K mg base CX k x ps sp := by
  obtain ⟨f, fd, g, kp, b, G, l⟩ := h
  exact ⟨f, fd, g, kp, b, G.mono hjk, l⟩
end
section
variable {X : Cx} {k : Nat} {x : Str} {ps : List Str} {sp : Sp} {p pos : Pos} {e : Expr} {es : List Expr} {t : TA}
theorem pe_has {j : Nat} (h : Has X.prog X.w X.K X.mg X.base CX0 j x ps sp) (hr : Room k X.A) (hjk : j ≤ k) (hg : Gl X x) (ha : PA X (e :: es) t) (hdb : (x == ("__debug__" : Str)) = false := by decide)
    (he : starEach (e :: es) X.env = (false, eval e X.env) :: starEach es X.env := by rfl) (hpl : (backTo pos (starEach es X.env)).any (·.1) = false := by rfl) :
    PE X (.Call (.Name x p) (e :: es) [] pos) (tCall sp [] E0 t) := by
  obtain ⟨f, fd, g, kp, b, G, _⟩ := h
  exact pe_call G (hr.mono hjk) hg g kp b .nil pass0 ha hdb he hpl
theorem pe_has0 {j : Nat} (h : Has X.prog X.w X.K X.mg X.base CX0 j x ps sp) (hr : Room k X.A) (hjk : j ≤ k) (hg : Gl X x) (hdb : (x == ("__debug__" : Str)) = false := by decide) :
    PE X (.Call (.Name x p) [] [] pos) (tCall sp [] E0 tNil) := by
  obtain ⟨f, fd, g, kp, b, G, _⟩ := h
  exact pe_call0 G (hr.mono hjk) hg g kp b .nil pass0 hdb
/-- a def that may raise, where it does not -/
theorem pe_hasX {j : Nat} (h : Has X.prog X.w X.K X.mg X.base (L2.CX X.prog X.w) j x ps sp) (hr : Room k X.A) (hjk : j ≤ k) (hg : Gl X x) (ha : PA X (e :: es) t) (hdb : (x == ("__debug__" : Str)) = false := by decide)
    (he : starEach (e :: es) X.env = (false, eval e X.env) :: starEach es X.env := by rfl) (hpl : (backTo pos (starEach es X.env)).any (·.1) = false := by rfl) :
    PE X (.Call (.Name x p) (e :: es) [] pos) (tCall sp [] E0 t) := by
  obtain ⟨f, fd, g, kp, b, G, _⟩ := h
  exact pe_call G (hr.mono hjk) hg g kp b .nil passL ha hdb he hpl
/-- .. in a try's body -/
theorem pe_hasS {j : Nat} {E : L2.St → XK} (h : Has X.prog X.w X.K X.mg X.base (L2.CX X.prog X.w) j x ps sp) (hr : Room k X.A) (hjk : j ≤ k) (hg : Gl X x) (hx : ∀ σ, PassesAt (L2.CX X.prog X.w) X σ (E σ)) (ha : PA X (e :: es) t) (hdb : (x == ("__debug__" : Str)) = false := by decide)
    (he : starEach (e :: es) X.env = (false, eval e X.env) :: starEach es X.env := by rfl) (hpl : (backTo pos (starEach es X.env)).any (·.1) = false := by rfl) :
    PE X (.Call (.Name x p) (e :: es) [] pos) (tCallS sp E t) := by
  obtain ⟨f, fd, g, kp, b, G, _⟩ := h
  exact pe_callS G (hr.mono hjk) hg g kp b hx ha hdb he hpl
end
section
variable {X : Cx} {tg e a b : Expr} {te ta tb : TE} {rest : List Expr} {p p2 q pos : Pos}
/-! the rules, the written part by its own letter -/
theorem k_ixT (K : PySem.W.Frag) (h : X.K = K := by rfl) : IxR X (rIxT K) := h ▸ ix_tup
theorem k_ixL (K : PySem.W.Frag) (h : X.K = K := by rfl) : IxR X (rIxL K) := h ▸ ix_list
def rLen (K : PySem.W.Frag) : List V → Hp → VK → Prop := fun xs H Q => ∃ p ys, xs = [.ref p] ∧ (SqL K H p ys ∨ SqT K H p ys) ∧ Q (.int ys.length) H
theorem k_len (K : PySem.W.Frag) (h : X.K = K := by rfl) : CallR X (.builtin "len") (rLen K) := h ▸ call_len_seq
theorem k_isi (K : PySem.W.Frag) (h : X.K = K := by rfl) : CallR X (.builtin "isinstance") (SIsi K) := fun pins s σ H xs us Q I r q => call_isi pins s σ H xs us Q I r (h.symm ▸ q.go)
theorem k_isiT (K : PySem.W.Frag) (h : X.K = K := by rfl) : CallR X (.builtin "isinstance") (SIsiT K) := fun pins s σ H xs us Q I r q => call_isiT pins s σ H xs us Q I r (h.symm ▸ q.go)
theorem k_in (K : PySem.W.Frag) (h : X.K = K := by rfl) : OpR X (compareOp .In) (rIn K false) := h ▸ op_in_seq
theorem k_notIn (K : PySem.W.Frag) (h : X.K = K := by rfl) : OpR X (compareOp .NotIn) (rIn K true) := h ▸ op_notIn_seq
theorem k_eqD (K : PySem.W.Frag) (hu : X.A.units + 64 < cLine) (h : X.K = K := by rfl) : OpR X (compareOp .Eq) (rEqD K) := h ▸ op_eqD hu
theorem k_neD (K : PySem.W.Frag) (hu : X.A.units + 64 < cLine) (h : X.K = K := by rfl) : OpR X (compareOp .NotEq) (rNeD K) := h ▸ op_neD hu
def rTupOf (K : PySem.W.Frag) : List V → Hp → VK → Prop := fun xs H Q => ∃ p ys, xs = [.ref p] ∧ ((SqL K H p ys ∧ ∀ l, H l = none → Q (.ref l) (upd H l (.tup ys))) ∨ (SqT K H p ys ∧ Q (.ref p) H))
def rLstOf (K : PySem.W.Frag) : List V → Hp → VK → Prop := fun xs H Q => ∃ p ys, xs = [.ref p] ∧ (SqL K H p ys ∨ SqT K H p ys) ∧ ∀ l, H l = none → Q (.ref l) (upd H l (.lst ys))
theorem k_tupOf (K : PySem.W.Frag) (h : X.K = K := by rfl) : CallR X (.type "tuple") (rTupOf K) := h ▸ call_tuple_of
theorem k_lstOf (K : PySem.W.Frag) (h : X.K = K := by rfl) : CallR X (.type "list") (rLstOf K) := h ▸ call_list_of
theorem k_all (K : PySem.W.Frag) (hc : X.calm = true := by rfl) (h : X.K = K := by rfl) : CallR X (.builtin "all") (rAll K) := h ▸ cr_all hc
theorem k_sortI (K : PySem.W.Frag) (h : X.K = K := by rfl) : CallR X (.builtin "sorted") (rSortedI K) := h ▸ cr_sortedI
theorem k_sortT (K : PySem.W.Frag) (h : X.K = K := by rfl) : CallR X (.builtin "sorted") (rSortT K) := h ▸ cr_sortT
theorem k_sl (K : PySem.W.Frag) (h : X.K = K := by rfl) : SlR X (rSlL K) := h ▸ sl_list
theorem k_list (K : PySem.W.Frag) (he : PE X e te) (h : X.K = K := by rfl) : PI X tg e (iList K te) := h ▸ pi_list he
theorem k_tup (K : PySem.W.Frag) (he : PE X e te) (h : X.K = K := by rfl) : PI X tg e (iTup K te) := h ▸ pi_tup he
theorem k_orT (K : PySem.W.Frag) (ha : PE X a ta) (hb : PE X (.BoolOp .Or (b :: rest) pos) tb) (h : X.K = K := by rfl) : PE X (.BoolOp .Or (a :: b :: rest) pos) (tOrT K ta tb) := h ▸ pe_orT ha hb
/-- a list or a tuple, whichever stands there -/
def iBoth (K : PySem.W.Frag) (tl : TE) : TI := fun σ H R => tl σ H fun x H1 => ∃ a xs, x = .ref a ∧ ((SqL K H1 a xs ∧ R (Itl K a) H1) ∨ (SqT K H1 a xs ∧ R (Itt K a) H1))
theorem k_both (K : PySem.W.Frag) (hl : PE X e te) (h : X.K = K := by rfl) : PI X tg e (iBoth K te) := by
  subst h
  refine ⟨fun pins s σ H R I h => ?_⟩
  refine thn (hl.run pins s σ H _ I h) fun v s1 ⟨x, H1, I1, r1, q1⟩ => ?_
  obtain ⟨a, xs, e, q⟩ := q1
  subst e
  cases r1
  rcases q with ⟨hq, q⟩ | ⟨hq, q⟩
  · obtain ⟨its, rv, p, hz⟩ := I1.list hq
    refine wpAny_pyIter_list p.isList ?_
    refine ⟨s1.heap.objs.size, [s1.heap.objs.size], _, _, H1, rfl, I1.kept (t' := s1.toks) fun b o e => Heap.get?_push_of_some _ e, turn_list a _, ⟨_, Heap.get?_push_size _ rfl, rfl, rfl⟩, fun b hb => ?_, q⟩
    have e : b = s1.heap.objs.size := by simpa using hb
    subst e
    exact I1.fpOk (Nat.le_refl _) (I1.hok.fresh (Nat.le_refl _))
  · obtain ⟨its, rv, p, hz⟩ := I1.tuple hq
    refine wpAny_pyIter_tuple (show s1.heap.IsTuple a its.toArray from p) ?_
    refine ⟨s1.heap.objs.size, [s1.heap.objs.size], _, _, H1, rfl, I1.kept (t' := s1.toks) fun b o e => Heap.get?_push_of_some _ e, turn_tuple a _, ⟨_, Heap.get?_push_size _ rfl, rfl, rfl⟩, fun b hb => ?_, q⟩
    have e : b = s1.heap.objs.size := by simpa using hb
    subst e
    exact I1.fpOk (Nat.le_refl _) (I1.hok.fresh (Nat.le_refl _))
theorem k_lenSet (K : PySem.W.Frag) (hg : Gl X "len") (hm : X.mg "len" = none) (hg2 : Gl X "set") (hm2 : X.mg "set" = none) (ha : PE X a ta) (hc : X.calm = true := by rfl)
    (na : starEach [a] X.env = (false, eval a X.env) :: starEach [] X.env := by rfl) (h : X.K = K := by rfl) : PE X (.Call (.Name "len" p) [.Call (.Name "set" p2) [a] [] q] [] pos) (tLenSetT K ta) := h ▸ pe_lenSetT hg hm hg2 hm2 ha hc na
end
/-! ### keywords alone -/
abbrev gRev : List V → List V → List V := fun vs zs => vs ++ zs.reverse
section
variable {X : Cx} {k j : Nat} {x : Str} {ps ks : List Str} {sp : Sp} {p pos : Pos} {kws : List Keyword} {tk : TA} {g : List Value → List Value → List Value} {gV : List V → List V → List V}
/-- the def x takes the keywords ks -/
def KHas (P : Program) (w : World) (K : PySem.W.Frag) (mg : Str → Option Value) (base : Heap) (CX : CXT) (k : Nat) (x : Str) (ps ks : List Str) (gV : List V → List V → List V) (sp : Sp) : Prop :=
  ∃ f fd g, mg x = some (.ref f) ∧ PySem.W.keepIn K (.ref f) = true ∧ KBinds K fd ps ks g gV ∧ FnOk P w K mg base CX k f fd ps sp
theorem pe_kw0 {CX : CXT} {f : Addr} {fd : FuncData} {E : XK} (F : FnOk X.prog X.w X.K X.mg X.base CX k f fd ps sp) (hr : Room k X.A) (hg : Gl X x) (hm : X.mg x = some (.ref f)) (hk : PySem.W.keepIn X.K (.ref f) = true) (hb : KBinds X.K fd ps ks g gV) (hx : Passes CX X E)
    (hkw : PK X kws tk) (hall : (backToKw pos (keywordEach kws X.env)).all (·.1.isSome) = true := by rfl) (hks : (backToKw pos (keywordEach kws X.env)).filterMap (·.1) = ks := by rfl)
    (hdb : (x == ("__debug__" : Str)) = false := by decide) (hpl : ((backTo pos (starEach [] X.env)).any (·.1) || (backToKw pos (keywordEach kws X.env)).any (·.1.isNone)) = false := by rfl) :
    PE X (.Call (.Name x p) [] kws pos) (tCallK sp gV E tNil tk) := by
  refine ⟨fun pins s σ H Q I h => ?_⟩
  refine wpAny_Call_Name_kw (ld_glob I hg hm ?_ hdb)
  refine PySem.W.callWith_KW0 (h₀ := X.base) I.ok.mod.kin hk hall ?_ hpl
  refine thn (hkw.run pos pins s σ H _ I h) fun ws s2 ⟨zs, H2, I2, rz, q2⟩ => ⟨I2.kIn, ?_⟩
  rw [hks]
  exact run_fnk F hr hb hx I2 .nil rz q2
theorem pe_hasK (h : KHas X.prog X.w X.K X.mg X.base CX0 j x ps ks gV sp) (hr : Room k X.A) (hjk : j ≤ k) (hg : Gl X x)
    (hkw : PK X kws tk) (hall : (backToKw pos (keywordEach kws X.env)).all (·.1.isSome) = true := by rfl) (hks : (backToKw pos (keywordEach kws X.env)).filterMap (·.1) = ks := by rfl)
    (hdb : (x == ("__debug__" : Str)) = false := by decide) (hpl : ((backTo pos (starEach [] X.env)).any (·.1) || (backToKw pos (keywordEach kws X.env)).any (·.1.isNone)) = false := by rfl) :
    PE X (.Call (.Name x p) [] kws pos) (tCallK sp gV E0 tNil tk) := by
  obtain ⟨f, fd, g, gx, kp, b, F⟩ := h
  exact pe_kw0 F (hr.mono hjk) hg gx kp b pass0 hkw hall hks hdb hpl
theorem pe_hasKX (h : KHas X.prog X.w X.K X.mg X.base (L2.CX X.prog X.w) j x ps ks gV sp) (hr : Room k X.A) (hjk : j ≤ k) (hg : Gl X x)
    (hkw : PK X kws tk) (hall : (backToKw pos (keywordEach kws X.env)).all (·.1.isSome) = true := by rfl) (hks : (backToKw pos (keywordEach kws X.env)).filterMap (·.1) = ks := by rfl)
    (hdb : (x == ("__debug__" : Str)) = false := by decide) (hpl : ((backTo pos (starEach [] X.env)).any (·.1) || (backToKw pos (keywordEach kws X.env)).any (·.1.isNone)) = false := by rfl) :
    PE X (.Call (.Name x p) [] kws pos) (tCallK sp gV E0 tNil tk) := by
  obtain ⟨f, fd, g, gx, kp, b, F⟩ := h
  exact pe_kw0 F (hr.mono hjk) hg gx kp b passL hkw hall hks hdb hpl
end
section
variable {P : Program} {w : World} {K : PySem.W.Frag} {mg : Str → Option Value} {base : Heap} {CX : CXT} {k i : Nat} {x : Str} {ps : List Str} {sp : Sp}
/-- all parameters by keywords, written last to first -/
theorem Has.kw (F : At K mg x i) (h : Has P w K mg base CX k x ps sp)
    (hb : ∀ (kV doc pm : Value) (an : Option Addr) (cdv ct : Value) (us ws : List Value), us.length + ws.length = ps.length → bindArgs (PySem.W.fnOf x x (defArgs (top i)) (defBody (top i)) (defScope (top i)) .none kV doc pm an cdv ct) ⟨us, ps.reverse.zip ws⟩ = pure (ps.zip (us ++ ws.reverse))) :
    KHas P w K mg base CX k x ps ps.reverse gRev sp := by
  obtain ⟨f, fd, F, g⟩ := F
  obtain ⟨f', fe, g', kp, b, G, l⟩ := h
  rw [g] at g'
  cases g'
  cases l.one (FnP.lies F)
  refine ⟨f, fd, fun us ws => us ++ ws.reverse, g, kp, ⟨fun s us ws hK hl => ?_, fun r rz => r.append rz.reverse⟩, G⟩
  obtain ⟨oc, od, dV, kV, doc, pm, an, cdv, ct, osl, rfl, lk, hcd, hD, hK⟩ := F.ex
  rcases hD with ⟨_, rfl⟩ | ⟨e, _⟩
  · exact .of_eq (hb kV doc pm an cdv ct us ws (by rw [List.length_append, List.length_reverse] at hl; exact hl))
  · exact absurd rfl e
end
/-! the mirror, the promises -/
/-! ### the mirror -/
abbrev G := List (Int × Int)
def seat (g : Int × Int) (tk : List Int) : Option Int := if g.1 ∈ tk then (if g.2 ∈ tk then none else some g.2) else some g.1
def stepS (gs : G) (st : List Int × (Nat → Option Int)) (k : Nat) : List Int × (Nat → Option Int) :=
  (st.1 ++ (seat (gs.getD k (0, 0)) st.1).toList, fun j => if j = k then seat (gs.getD k (0, 0)) st.1 else st.2 j)
def runS (gs : G) (row : List Nat) : List Int × (Nat → Option Int) := row.foldl (stepS gs) ([], fun _ => none)
/-- what a GUEST has behind a ROW -/
def own (gs : G) (row : List Nat) (j : Nat) : Option Int := (runS gs row).2 j
/-- the ROW of all others -/
def off (row : List Nat) (k : Nat) : List Nat := row.filter fun j => decide (j ≠ k)
/-- who is helped by k's staying away -/
def hl (gs : G) (row : List Nat) (k : Nat) : List Nat := (off row k).filter fun j => (own gs row j).isNone && (own gs (off row k) j).isSome
def hd1 (gs : G) (row : List Nat) (k : Nat) : Option Nat := (hl gs row k).head?
def same1 (gs : G) (row : List Nat) (k : Nat) : Bool := (off row k).all fun j => decide (own gs row j = own gs (off row k) j)
def calm (gs : G) (row : List Nat) : List Nat := (List.range gs.length).filter (same1 gs row)
def hps (gs : G) (row : List Nat) (k : Nat) : List Nat := (List.range gs.length).filter fun j => decide (hd1 gs row j = some k)
structure Wf (m : Int) (gs : G) : Prop where
  m1 : 1 ≤ m
  in_ : ∀ g ∈ gs, (0 ≤ g.1 ∧ g.1 ≤ m - 1) ∧ (0 ≤ g.2 ∧ g.2 ≤ m - 1) ∧ g.1 ≠ g.2
  len : gs.length ≤ 1000
structure Ord (n : Nat) (row : List Nat) : Prop where
  nd : row.Nodup
  lt : ∀ k ∈ row, k < n
  len : row.length = n
def optN : Option Nat → V
  | none => .non
  | some k => nV k
def tkV (gs : G) (row : List Nat) : List V := (List.range gs.length).map fun j => oV (own gs row j)
/-- arguments: lists or tuples at any depth -/
structure WebArg (H : Hp) (v : V) (m : Int) (gs : G) : Prop where
  t : ∃ t, Rp H v t ∧ dep t ≤ 3 ∧ conv false t = webT false m gs
  wf : Wf m gs
structure OrdArg (H : Hp) (v : V) (n : Nat) (row : List Nat) : Prop where
  t : ∃ t, Rp H v t ∧ dep t ≤ 3 ∧ conv false t = rowT false row
  ord : Ord n row
theorem WebArg.mono {H H' : Hp} {v : V} {m : Int} {gs : G} (h : WebArg H v m gs) (s : Same H H') : WebArg H' v m gs := by
  obtain ⟨⟨t, r, d, c⟩, w⟩ := h
  exact ⟨⟨t, r.mono s, d, c⟩, w⟩
theorem OrdArg.mono {H H' : Hp} {v : V} {n : Nat} {row : List Nat} (h : OrdArg H v n row) (s : Same H H') : OrdArg H' v n row := by
  obtain ⟨⟨t, r, d, c⟩, w⟩ := h
  exact ⟨⟨t, r.mono s, d, c⟩, w⟩
/-- the source of draws -/
def TinAt (H : Hp) (t : Addr) (m : Int) : Prop := ∃ a b c : Int, H t = some (.lst [.int a, .int b, .int c]) ∧ 0 ≤ a ∧ (0 ≤ b ∧ b < 2 ^ 62) ∧ 0 ≤ c ∧ c ≤ m
/-- all but the object at t stands -/
def SameB (t : Addr) (H H' : Hp) : Prop := ∀ b o, b ≠ t → H b = some o → H' b = some o
abbrev TupAt (xs : List V) : V → Hp → Prop := fun v H => ∃ a, v = .ref a ∧ H a = some (.tup xs)
abbrev LstAt (xs : List V) : V → Hp → Prop := fun v H => ∃ a, v = .ref a ∧ H a = some (.lst xs)
abbrev TreeAt (t : Tr) : V → Hp → Prop := fun v H => Rp H v t
/-! ### promises -/
def sp_is_number : Sp := fun vs H Q _ => ∃ i : Int, vs = [.int i] ∧ Q (.bl true) H
def sp_is_from : Sp := fun vs H Q _ => ∃ i j : Int, vs = [.int i, .int j] ∧ j ≤ i ∧ Q (.bl true) H
def sp_is_within : Sp := fun vs H Q _ => ∃ i a b : Int, vs = [.int i, .int a, .int b] ∧ (a ≤ i ∧ i ≤ b) ∧ Q (.bl true) H
def sp_is_long : Sp := fun vs H Q _ => ∃ (a : Addr) (xs : List V), vs = [.ref a, .int (xs.length : Int)] ∧ H a = some (.tup xs) ∧ Q (.bl true) H
def sp_tupled (n : Nat) : Sp := fun vs H Q _ => ∃ v t, vs = [v] ∧ Rp H v t ∧ dep t ≤ n ∧ RetN (TreeAt (conv false t)) H Q
def sp_is_guest_of : Sp := fun vs H Q _ => ∃ (m : Int) (v : V) (g : Int × Int), vs = [.int m, v] ∧ Rp H v (pairT false g) ∧ ((0 ≤ g.1 ∧ g.1 ≤ m - 1) ∧ (0 ≤ g.2 ∧ g.2 ≤ m - 1) ∧ g.1 ≠ g.2) ∧ RetV (.bl true) H Q
def sp_is_web : Sp := fun vs H Q _ => ∃ (v : V) (m : Int) (gs : G), vs = [v] ∧ Rp H v (webT false m gs) ∧ Wf m gs ∧ RetV (.bl true) H Q
def sp_sure_web : Sp := fun vs H Q _ => ∃ (v : V) (m : Int) (gs : G), vs = [v] ∧ WebArg H v m gs ∧ RetN (TreeAt (webT false m gs)) H Q
def sp_sure_guest : Sp := fun vs H Q _ => ∃ (v : V) (m : Int) (gs : G) (k : Nat), vs = [v, nV k] ∧ Rp H v (webT false m gs) ∧ k < gs.length ∧ Q (nV k) H
def sp_is_row_in : Sp := fun vs H Q _ => ∃ (v : V) (m : Int) (gs : G) (r : Addr) (row : List Nat), vs = [v, .ref r] ∧ Rp H v (webT false m gs) ∧ Wf m gs ∧ H r = some (.tup (row.map nV)) ∧ Ord gs.length row ∧ RetV (.bl true) H Q
def sp_sure_order : Sp := fun vs H Q _ => ∃ (v u : V) (m : Int) (gs : G) (row : List Nat), vs = [v, u] ∧ Rp H v (webT false m gs) ∧ Wf m gs ∧ OrdArg H u gs.length row ∧ RetN (TupAt (row.map nV)) H Q
def sp_seat_in : Sp := fun vs H Q _ => ∃ (v : V) (m : Int) (gs : G) (d : Addr) (kvs : List (Key × V)) (tk : List Int) (k : Nat), vs = [v, .ref d, nV k] ∧ Rp H v (webT false m gs) ∧ H d = some (.dK kvs) ∧
  (∀ i : Int, (valV kvs (Sum.inl i)).isSome = decide (i ∈ tk)) ∧ k < gs.length ∧ Q (oV (seat (gs.getD k (0, 0)) tk)) H
def sp_seats_in : Sp := fun vs H Q _ => ∃ (v : V) (m : Int) (gs : G) (r : Addr) (row : List Nat), vs = [v, .ref r] ∧ Rp H v (webT false m gs) ∧ H r = some (.tup (row.map nV)) ∧ (∀ k ∈ row, k < gs.length) ∧ row.length ≤ 1000 ∧
  RetN (fun v H => ∃ d kvs, v = .ref d ∧ H d = some (.dK kvs) ∧ ∀ k : Nat, (valV kvs (Sum.inl (k : Int))).getD .non = oV (own gs row k)) H Q
/-- seated_in, the law's own run -/
def sp_run : Sp := fun vs H Q _ => ∃ (v : V) (m : Int) (gs : G) (r : Addr) (row : List Nat), vs = [v, .ref r] ∧ Rp H v (webT false m gs) ∧ gs.length ≤ 1000 ∧ H r = some (.tup (row.map nV)) ∧ (∀ k ∈ row, k < gs.length) ∧ row.length ≤ 1000 ∧
  RetN (TupAt (tkV gs row)) H Q
def sp_sure_three : Sp := fun vs H Q _ => ∃ (v u : V) (m : Int) (gs : G) (row : List Nat) (k : Nat), vs = [v, u, nV k] ∧ WebArg H v m gs ∧ OrdArg H u gs.length row ∧ k < gs.length ∧
  RetN (fun v H => ∃ a w r, v = .ref a ∧ H a = some (.tup [w, .ref r, nV k]) ∧ Rp H w (webT false m gs) ∧ H r = some (.tup (row.map nV))) H Q
/-- without_one, the law's own off -/
def sp_off : Sp := fun vs H Q _ => ∃ (r : Addr) (row : List Nat) (k : Nat), vs = [.ref r, nV k] ∧ H r = some (.tup (row.map nV)) ∧ row.length ≤ 1000 ∧ RetN (TupAt ((off row k).map nV)) H Q
def sp_helped_in : Sp := fun vs H Q _ => ∃ (v : V) (m : Int) (gs : G) (r : Addr) (row : List Nat) (a : Addr) (k : Nat), vs = [v, .ref r, .ref a, nV k] ∧ Rp H v (webT false m gs) ∧ gs.length ≤ 1000 ∧ H r = some (.tup (row.map nV)) ∧ Ord gs.length row ∧
  H a = some (.tup (tkV gs row)) ∧ RetV (optN (hd1 gs row k)) H Q
def sp_helped : Sp := fun vs H Q _ => ∃ (v u : V) (m : Int) (gs : G) (row : List Nat) (k : Nat), vs = [v, u, nV k] ∧ WebArg H v m gs ∧ OrdArg H u gs.length row ∧ k < gs.length ∧ RetV (optN (hd1 gs row k)) H Q
def sp_helpers (C : Addr) : Sp := fun vs H Q E => ∃ (v u : V) (m : Int) (gs : G) (row : List Nat) (k : Nat), vs = [v, u, nV k] ∧ WebArg H v m gs ∧ OrdArg H u gs.length row ∧ k < gs.length ∧
  (own gs row k = none → RetN (TupAt ((hps gs row k).map nV)) H Q) ∧ (own gs row k ≠ none → ∀ H', Same H H' → E (.ref C) none H')
def sp_is_harmless : Sp := fun vs H Q _ => ∃ (v : V) (m : Int) (gs : G) (r : Addr) (row : List Nat) (a : Addr) (k : Nat), vs = [v, .ref r, .ref a, nV k] ∧ Rp H v (webT false m gs) ∧ gs.length ≤ 1000 ∧ H r = some (.tup (row.map nV)) ∧ Ord gs.length row ∧
  H a = some (.tup (tkV gs row)) ∧ RetV (.bl (same1 gs row k)) H Q
def sp_harmless : Sp := fun vs H Q _ => ∃ (v u : V) (m : Int) (gs : G) (row : List Nat), vs = [v, u] ∧ WebArg H v m gs ∧ OrdArg H u gs.length row ∧ RetN (TupAt ((calm gs row).map nV)) H Q
/-! ### the law's own defs -/
def sp_box : Sp := fun vs H Q _ => ∃ (c : Addr) (z : Int), vs = [.ref c, .int 0] ∧ H c = some (.lst [.int z]) ∧ RetN (fun v H => ∃ t, v = .ref t ∧ TinAt H t 0) H Q
def sp_take : Sp := fun vs H Q _ => ∃ (t : Addr) (m n : Int), vs = [.ref t, .int n] ∧ TinAt H t m ∧ m ≤ 10000 ∧ (1 ≤ n ∧ n ≤ 1000) ∧ ∀ (i : Int) (H' : Hp), (0 ≤ i ∧ i < n) → SameB t H H' → (∀ b, H b = none → H' b = none) → TinAt H' t (m + 1) → Q (.int i) H'
def sp_cells (K : PySem.W.Frag) : Sp := fun vs H Q _ => ∃ (s : Addr) (ns : List Int), vs = [.ref s, .int 1] ∧ SqL K H s (ns.map V.int) ∧ ns.length ≤ 63 ∧ RetN (fun v H => ∃ z : Int, LstAt [.int z] v H) H Q
def sp_pick : Sp := fun vs H Q _ => ∃ (t g : Addr) (m c : Int) (xs : List V), vs = [.ref t, .ref g, .int c] ∧ TinAt H t m ∧ m ≤ 5000 ∧ H g = some (.lst xs) ∧ g ≠ t ∧ xs.length ≤ 100 ∧ (0 ≤ c ∧ c ≤ 100) ∧
  ∀ (p : Addr) (ys rest : List V) (H' : Hp), (ys ++ rest).Perm xs → ys.length = min c.toNat xs.length → SameB t H H' → TinAt H' t (m + 100) → H p = none → H' p = some (.lst ys) → Q (.ref p) H'
def sp_lists (n : Nat) : Sp := fun vs H Q _ => ∃ v t, vs = [v] ∧ Rp H v t ∧ dep t ≤ n ∧ RetN (TreeAt (conv true t)) H Q
def sp_same (n : Nat) : Sp := fun vs H Q _ => ∃ v u t, vs = [v, u] ∧ Rp H v t ∧ Rp H u t ∧ dep t ≤ n ∧ RetV (.bl true) H Q
def sp_lseat : Sp := fun vs H Q _ => ∃ (v : V) (m : Int) (gs : G) (l : Addr) (tk : List Int) (k : Nat), vs = [v, .ref l, nV k] ∧ Rp H v (webT false m gs) ∧ H l = some (.lst (tk.map V.int)) ∧ k < gs.length ∧ Q (oV (seat (gs.getD k (0, 0)) tk)) H
def sp_walk : Sp := fun vs H Q _ => ∃ (t : Addr) (m : Int) (n : Nat), vs = [.ref t, nV n] ∧ TinAt H t m ∧ m ≤ 5000 ∧ n ≤ 100 ∧
  ∀ (a : Addr) (row : List Nat) (H' : Hp), Ord n row → SameB t H H' → TinAt H' t (m + 100) → H a = none → H' a = some (.tup (row.map nV)) → Q (.ref a) H'
def sp_busy : Sp := fun vs H Q _ => ∃ (t : Addr) (m : Int), vs = [.ref t, .int 6, .int 7] ∧ TinAt H t m ∧ m ≤ 1000 ∧
  ∀ (v : V) (mm : Int) (gs : G) (H' : Hp), Wf mm gs → (1 ≤ gs.length ∧ gs.length ≤ 7) → SameB t H H' → TinAt H' t (m + 1000) → Rp (nw H H') v (webT false mm gs) → Q v H'
def rowN : G := [(1, 0), (2, 1), (3, 2), (3, 4)]
def roundN : G := [(1, 0), (1, 2), (3, 2), (4, 3), (4, 0)]
def sp_row_net : Sp := fun vs H Q _ => vs = [] ∧ RetN (TreeAt (webT false 5 rowN)) H Q
def sp_round_net : Sp := fun vs H Q _ => vs = [] ∧ RetN (TreeAt (webT false 5 roundN)) H Q
def sp_lhelped : Sp := fun vs H Q _ => ∃ (v : V) (m : Int) (gs : G) (r : Addr) (row : List Nat) (k : Nat), vs = [v, .ref r, nV k] ∧ Rp H v (webT false m gs) ∧ gs.length ≤ 1000 ∧ H r = some (.tup (row.map nV)) ∧ Ord gs.length row ∧ RetN (LstAt ((hl gs row k).map nV)) H Q
def cannotT : Tr := .node true [.leaf (.str "cannot"), .leaf (.bl true)]
def heardT (gs : G) (row : List Nat) (k : Nat) : Tr := if own gs row k = none then rowT false (hps gs row k) else cannotT
def sp_heard : Sp := fun vs H Q _ => ∃ (v u : V) (m : Int) (gs : G) (row : List Nat) (k : Nat), vs = [v, u, nV k] ∧ WebArg H v m gs ∧ OrdArg H u gs.length row ∧ k < gs.length ∧ RetN (TreeAt (heardT gs row k)) H Q
def sp_by_hand : Sp := fun vs H Q _ => vs = [] ∧ RetV (.bl true) H Q
def sp_right : Sp := fun vs H Q _ => ∃ t, vs = [.ref t] ∧ TinAt H t 0 ∧ ∀ H', Q (.bl true) H'
def sp_law (K : PySem.W.Frag) : Sp := fun vs H Q _ => ∃ (a : Addr) (ns : List Int), vs = [.ref a] ∧ SqL K H a (ns.map V.int) ∧ ns.length ≤ 63 ∧ ∀ H', Q (.bl true) H'
def sp_none : Sp := fun _ _ _ _ => False
theorem none_has {P : Program} {w : World} {K : PySem.W.Frag} {mg : Str → Option Value} {base : Heap} {x : Str} {i : Nat} {ps : List Str} (F : At K mg x i)
    (hb : ∀ (kV doc pm : Value) (an : Option Addr) (cdv ct : Value) (us : List Value), us.length = ps.length → bindArgs (PySem.W.fnOf x x (defArgs (top i)) (defBody (top i)) (defScope (top i)) .none kV doc pm an cdv ct) ⟨us, []⟩ = pure (ps.zip us)) :
    Has P w K mg base CX0 0 x ps sp_none := by
  obtain ⟨f, fd, F, g⟩ := F
  exact ⟨f, fd, g, F.kp, F.bindsN hb, ⟨fun vs H Q E h => h.elim, fun A outer s H args us vs Q E _ _ _ _ h => h.elim⟩, FnP.lies F⟩
/-- the own error, as the top has written it -/
structure CanNotIs (K : PySem.W.Frag) (mg : Str → Option Value) (C : Addr) : Prop where
  g : mg "CanNot" = some (.ref C)
  x : PySem.W.excIn K C He.veBase "ValueError.__new__" = true
  k : PySem.W.keepIn K (.ref C) = true
  b : PySem.W.subIn K (.ref C) (.type "BaseException") = some true
  t : PySem.W.typeIn K (.ref C) = some (.type "type")
  m : PySem.W.exmOne K (.ref C) (.ref C) = some true
  e : ExcC K C
  v : PySem.W.kitOne K (.ref C) (.type "ValueError") = some true
def rIsE1 (K : PySem.W.Frag) (D a : Addr) (cls : Value) (d : Option Addr) : List V → Hp → VK → Prop := fun xs H Q => cls = .ref D ∧ d = none ∧ rIsE K D a xs H Q
theorem k_isE {X : Cx} {a D : Addr} {oe : Obj} {pn : List (Addr × Obj)} {cls : Value} {d : Option Addr} (K : PySem.W.Frag) (C : ExcC K D) (hz : Zc cls d oe) (hf : ∃ vs, oe.data = .fields vs) (h : X.K = K := by rfl) :
    CallR (X.suite a ((a, oe) :: pn)) (.builtin "isinstance") (rIsE1 K D a cls d) := by
  subst h
  intro pins s σ H xs us Q I r hq
  obtain ⟨rfl, rfl, hq⟩ := hq
  exact call_isE C hz hf pins s σ H xs us Q I r hq
def t_heard (C : Addr) : WX → TS := fun W => tRet (tCallS (sp_helpers C) (WE W) (tCons (tVar 0) (tCons (tVar 1) (tCons (tVar 2) tNil))))
def t_heardS (K : PySem.W.Frag) (C : Addr) : Addr → Value → Option Addr → TS := fun a cls d => tRet (tLst (tCons (tC (.str "cannot")) (tCons (tCB (rIsE1 K C a cls d) (tCons (tVar 3) (tCons (tC (.ty "ValueError")) tNil))) tNil)))
theorem leaf_no {v : V} (h : flatV v = true) : kitB (tyT (.leaf v)) "list" = some false ∧ kitB (tyT (.leaf v)) "tuple" = some false := by
  cases v with
  | non => exact ⟨by decide +kernel, by decide +kernel⟩
  | bl b => exact ⟨by show kitB "bool" "list" = _; decide +kernel, by show kitB "bool" "tuple" = _; decide +kernel⟩
  | int b => exact ⟨by show kitB "int" "list" = _; decide +kernel, by show kitB "int" "tuple" = _; decide +kernel⟩
  | str b => exact ⟨by show kitB "str" "list" = _; decide +kernel, by show kitB "str" "tuple" = _; decide +kernel⟩
  | _ => cases h
theorem node_yes (l : Bool) (ts : List Tr) : ∃ b b2, kitB (tyT (.node l ts)) "list" = some b ∧ kitB (tyT (.node l ts)) "tuple" = some b2 ∧ (b || b2) = true := by
  cases l with
  | true => exact ⟨true, false, by show kitB "list" "list" = _; decide +kernel, by show kitB "list" "tuple" = _; decide +kernel, rfl⟩
  | false => exact ⟨false, true, by show kitB "tuple" "list" = _; decide +kernel, by show kitB "tuple" "tuple" = _; decide +kernel, rfl⟩
theorem all_true (n : Nat) : List.replicate n (V.bl true) = (List.replicate n true).map V.bl := by rw [List.map_replicate]
theorem all_true2 : ∀ n : Nat, (List.replicate n true).all id = true
  | 0 => rfl
  | n + 1 => all_true2 n
theorem bl_all {ys : List V} (h : ∀ (i : Nat) (y : V), ys[i]? = some y → y = .bl true) : ys = (List.replicate ys.length true).map V.bl := by
  rw [List.map_replicate]
  refine List.eq_replicate_iff.mpr ⟨rfl, fun y hy => ?_⟩
  obtain ⟨i, hi, e⟩ := List.mem_iff_getElem.mp hy
  exact h i y (by rw [List.getElem?_eq_getElem hi, e])
theorem pair_rp {H : Hp} {p : Addr} {g : Int × Int} (h : H p = some (.tup [.int g.1, .int g.2])) : Rp H (.ref p) (pairT false g) :=
  .node h (by show 2 ≤ 1000; decide) (.cons (.leaf rfl) (.cons (.leaf rfl) .nil))
theorem WebAt.item {H : Hp} {v : V} {m : Int} {gs : G} {a b : Addr} {ps : List V} (w : WebAt H v m gs a b ps) {i : Nat} {x : V} (hi : ps[i]? = some x) : ∃ g p, gs[i]? = some g ∧ x = .ref p ∧ H p = some (.tup [.int g.1, .int g.2]) := by
  have h1 := (List.getElem?_eq_some_iff.mp hi).1
  have h3 : i < gs.length := by rw [← w.len]; exact h1
  have h2 : gs[i]? = some gs[i] := List.getElem?_eq_getElem h3
  obtain ⟨p, e1, e2⟩ := w.at_ i _ h2
  rw [hi] at e1
  exact ⟨_, p, h2, Option.some.inj e1, e2⟩
theorem WebAt.get {H : Hp} {v : V} {m : Int} {gs : G} {a b : Addr} {ps : List V} (w : WebAt H v m gs a b ps) {k : Nat} (hk : k < gs.length) : ∃ p, ps[k]? = some (.ref p) ∧ H p = some (.tup [.int (gs.getD k (0, 0)).1, .int (gs.getD k (0, 0)).2]) := by
  have h2 : gs[k]? = some (gs.getD k (0, 0)) := by
    rw [List.getD_eq_getElem?_getD, List.getElem?_eq_getElem hk]
    rfl
  exact w.at_ k _ h2
theorem map_of {α : Type} {ys : List α} {n : Nat} {f : Nat → α} (hl : ys.length = n) (h : ∀ (i : Nat) (y : α), ys[i]? = some y → y = f i) : ys = (List.range n).map f := by
  refine List.ext_getElem? fun i => ?_
  rw [List.getElem?_map]
  by_cases hi : i < n
  · rw [List.getElem?_range hi, List.getElem?_eq_getElem (by omega)]
    exact congrArg some (h i _ (List.getElem?_eq_getElem (by omega)))
  · rw [List.getElem?_eq_none (by omega), List.getElem?_eq_none (by rw [List.length_range]; omega)]
    rfl
theorem take_more {α : Type} {l : List α} {i : Nat} {x : α} (h : l[i]? = some x) : l.take (i + 1) = l.take i ++ [x] := by
  rw [List.take_add_one, h]
  rfl
theorem run_more {gs : G} {row : List Nat} {i k : Nat} (h : row[i]? = some k) : runS gs (row.take (i + 1)) = stepS gs (runS gs (row.take i)) k := by
  unfold runS
  rw [take_more h, List.foldl_append]
  rfl
theorem nat_item {row : List Nat} {i : Nat} {x : V} (h : (row.map nV)[i]? = some x) : ∃ k, row[i]? = some k ∧ x = nV k := by
  rw [List.getElem?_map] at h
  obtain ⟨k, e1, e2⟩ := Option.map_eq_some_iff.mp h
  exact ⟨k, e1, e2.symm⟩
theorem nV_inj {a b : Nat} (h : nV a = nV b) : a = b := by
  have e : (a : Int) = (b : Int) := V.int.inj h
  omega
theorem oV_non (o : Option Int) : decide (oV o = V.non) = o.isNone := by cases o <;> rfl
theorem oV_eq (a b : Option Int) : scal (oV a) (oV b) = true ∧ decide (oV a = oV b) = decide (a = b) := by
  cases a with
  | none => cases b with
    | none => exact ⟨rfl, rfl⟩
    | some y => exact ⟨rfl, by show decide (V.non = V.int y) = decide ((none : Option Int) = some y); simp⟩
  | some x => cases b with
    | none => exact ⟨rfl, by show decide (V.int x = V.non) = decide (some x = (none : Option Int)); simp⟩
    | some y => exact ⟨rfl, by show decide (V.int x = V.int y) = decide (some x = some y); simp⟩
theorem optN_eq (a : Option Nat) (k : Nat) : scal (optN a) (nV k) = true ∧ decide (optN a = nV k) = decide (a = some k) := by
  cases a with
  | none => exact ⟨rfl, by show decide (V.non = V.int (k : Int)) = decide ((none : Option Nat) = some k); simp⟩
  | some x => exact ⟨rfl, by
      show decide (V.int (x : Int) = V.int (k : Int)) = decide (some x = some k)
      rw [Bool.eq_iff_iff, decide_eq_true_iff, decide_eq_true_iff]
      constructor
      · intro h
        rw [nV_inj h]
      · intro h
        rw [Option.some.inj h]⟩
theorem nV_eq (a b : Nat) : decide (nV a = nV b) = decide (a = b) := (optN_eq (some a) b).2.trans (by rw [Bool.eq_iff_iff]; simp)
theorem tk_get {gs : G} {row : List Nat} {j : Nat} (h : j < gs.length) : (tkV gs row)[j]? = some (oV (own gs row j)) := by
  unfold tkV
  rw [List.getElem?_map, List.getElem?_range h]
  rfl
theorem optN_head (l : List Nat) : (l.map nV)[0]? = l.head?.map nV := by cases l <;> rfl
theorem iteC {c : Bool} {A B : Prop} (hc : c = true) (h : A) : if c = true then A else B := by
  rw [if_pos hc]
  exact h
theorem iteD {c : Bool} {A B : Prop} (hc : c = false) (h : B) : if c = true then A else B := by
  rw [hc, if_neg Bool.false_ne_true]
  exact h
/-- a for loop over anything of n items -/
theorem for_any {J : It} {g : TG} {tb : TS} {D : Ends} {σ : L2.St} {H : Hp} (n : Nat) (Pv : Nat → L2.St → Hp → Prop) (h0 : Pv 0 σ H) (hgo : ∀ i σ H, i < n → Pv i σ H → J.go i H) (hst : ∀ σ H, Pv n σ H → J.stop n H)
    (hs : ∀ i σ H x H', i < n → Pv i σ H → J.yld i H x H' → g x σ H' fun σ2 H2 => tb { D with nx := Pv (i + 1), ct := Pv (i + 1), bk := D.nx } σ2 H2) (hd : ∀ σ H, Pv n σ H → D.nx σ H) :
    ∃ W : Nat → Nat → L2.St → Hp → Prop, (∃ m, W 0 m σ H) ∧ ∀ i m σ H, W i m σ H →
      (J.stop i H ∧ D.nx σ H) ∨ (J.go i H ∧ ∃ N : L2.St → Hp → Prop, (∀ σ' H', N σ' H' → ∃ m', m' < m ∧ W (i + 1) m' σ' H') ∧ ∀ x H', J.yld i H x H' → g x σ H' fun σ2 H2 => tb { D with nx := N, ct := N, bk := D.nx } σ2 H2) := by
  refine ⟨fun i m σ H => m = n - i ∧ i ≤ n ∧ Pv i σ H, ⟨n, by simp, Nat.zero_le _, h0⟩, ?_⟩
  rintro i m σ H ⟨rfl, hi, p⟩
  by_cases hlt : i < n
  · exact .inr ⟨hgo i σ H hlt p, Pv (i + 1), fun σ' H' p' => ⟨n - (i + 1), by omega, rfl, hlt, p'⟩, fun x H' y => hs i σ H x H' hlt p y⟩
  · have e : i = n := by omega
    subst e
    exact .inl ⟨hst σ H p, hd σ H p⟩
theorem row_cast (row : List Nat) : row.map nV = (row.map fun k : Nat => (k : Int)).map V.int := by rw [List.map_map]; rfl
/-! the plain law: one guest less -/
open PySem
theorem ord_perm {n : Nat} {row : List Nat} (h : Ord n row) : row.Perm (List.range n) := by
  refine (List.perm_ext_iff_of_nodup h.nd List.nodup_range).mpr fun k => ⟨fun m => List.mem_range.mpr (h.lt k m), fun m => ?_⟩
  have hk : k < n := List.mem_range.mp m
  refine Classical.byContradiction fun no => ?_
  have nd : (k :: row).Nodup := List.nodup_cons.mpr ⟨no, h.nd⟩
  have le := nd.length_le_of_subset (l₂ := List.range n) fun j hj => by
    rcases List.mem_cons.mp hj with e | hj
    · rw [e]
      exact m
    · exact List.mem_range.mpr (h.lt j hj)
  rw [List.length_cons, h.len, List.length_range] at le
  omega
theorem range_sorted (n : Nat) (p : Nat → Bool) : (((List.range n).filter p).map fun k : Nat => (k : Int)).Pairwise (· ≤ ·) := by
  refine List.pairwise_map.mpr ?_
  refine List.Pairwise.imp (R := (· < ·)) (fun {a b} h => by omega) ?_
  exact List.Pairwise.filter p List.pairwise_lt_range
theorem sorted_row {n : Nat} {row : List Nat} (h : Ord n row) (p : Nat → Bool) {ns : List Int} (hp : ns.Perm ((row.filter p).map fun k : Nat => (k : Int))) (hs : ns.Pairwise (· ≤ ·)) : ns = ((List.range n).filter p).map fun k : Nat => (k : Int) :=
  PySem.W.ksm_same (hp.trans (((ord_perm h).filter p).map _)) hs (range_sorted n p)
/-! ### runs -/
theorem seat_congr {g : Int × Int} {T1 T2 : List Int} (h : ∀ z, z ∈ T1 ↔ z ∈ T2) : seat g T1 = seat g T2 := by
  unfold seat
  simp only [h]
theorem fold_keep (gs : G) : ∀ (r : List Nat) (st : List Int × (Nat → Option Int)) (j : Nat), j ∉ r → (r.foldl (stepS gs) st).2 j = st.2 j
  | [], _, _, _ => rfl
  | k :: r, st, j, h => by
    obtain ⟨h1, h2⟩ : j ≠ k ∧ j ∉ r := by simpa using h
    rw [List.foldl_cons, fold_keep gs r _ j h2]
    show (if j = k then _ else _) = _
    rw [if_neg h1]
theorem fold_at (gs : G) {k : Nat} {r : List Nat} (st : List Int × (Nat → Option Int)) (h : k ∉ r) : ((k :: r).foldl (stepS gs) st).2 k = seat (gs.getD k (0, 0)) st.1 := by
  rw [List.foldl_cons, fold_keep gs r _ k h]
  show (if k = k then _ else _) = _
  rw [if_pos rfl]
theorem run_eq (gs : G) : ∀ (r : List Nat) (s1 s2 : List Int × (Nat → Option Int)), r.Nodup → (∀ z, z ∈ s1.1 ↔ z ∈ s2.1) → ∀ j ∈ r, (r.foldl (stepS gs) s1).2 j = (r.foldl (stepS gs) s2).2 j
  | [], _, _, _, _, j, h => by simp at h
  | k :: r, s1, s2, nd, he, j, h => by
    obtain ⟨hk, nd⟩ := List.nodup_cons.mp nd
    have e := seat_congr (g := gs.getD k (0, 0)) he
    rcases List.mem_cons.mp h with rfl | h
    · rw [fold_at gs _ hk, fold_at gs _ hk, e]
    · rw [List.foldl_cons, List.foldl_cons]
      refine run_eq gs r _ _ nd (fun z => ?_) j h
      show z ∈ s1.1 ++ _ ↔ z ∈ s2.1 ++ _
      rw [e, List.mem_append, List.mem_append, he z]
theorem none_filter {f1 f2 : Nat → Option Int} {r : List Nat} (h : ∀ j ∈ r, f1 j = f2 j) : r.filter (fun j => (f1 j).isNone && (f2 j).isSome) = [] := by
  refine List.filter_eq_nil_iff.mpr fun j hj => ?_
  rw [h j hj]
  cases f2 j <;> simp
/-- x more is taken with the guest -/
def Ex1 (x : Int) (T1 T2 : List Int) : Prop := x ∉ T2 ∧ ∀ z, z ∈ T1 ↔ (z ∈ T2 ∨ z = x)
theorem run_ex (gs : G) : ∀ (r : List Nat) (x : Int) (s1 s2 : List Int × (Nat → Option Int)), r.Nodup → Ex1 x s1.1 s2.1 →
    (∀ j ∈ r, (r.foldl (stepS gs) s1).2 j ≠ none → (r.foldl (stepS gs) s2).2 j ≠ none) ∧ (r.filter fun j => ((r.foldl (stepS gs) s1).2 j).isNone && ((r.foldl (stepS gs) s2).2 j).isSome).length ≤ 1
  | [], _, _, _, _, _ => ⟨fun j h => by simp at h, Nat.zero_le _⟩
  | k :: r, x, s1, s2, nd, ⟨hx, he⟩ => by
    obtain ⟨hk, nd⟩ := List.nodup_cons.mp nd
    have a1 := fold_at gs s1 hk
    have a2 := fold_at gs s2 hk
    -- one turn
    have turn : (seat (gs.getD k (0, 0)) s1.1 = seat (gs.getD k (0, 0)) s2.1 ∧ ∃ y, Ex1 y (stepS gs s1 k).1 (stepS gs s2 k).1) ∨ (seat (gs.getD k (0, 0)) s1.1 ≠ none ∧ seat (gs.getD k (0, 0)) s2.1 ≠ none ∧ ∃ y, Ex1 y (stepS gs s1 k).1 (stepS gs s2 k).1) ∨
        (seat (gs.getD k (0, 0)) s1.1 = none ∧ seat (gs.getD k (0, 0)) s2.1 ≠ none ∧ ∀ z, z ∈ (stepS gs s1 k).1 ↔ z ∈ (stepS gs s2 k).1) := by
      have d1 : (stepS gs s1 k).1 = s1.1 ++ (seat (gs.getD k (0, 0)) s1.1).toList := rfl
      have d2 : (stepS gs s2 k).1 = s2.1 ++ (seat (gs.getD k (0, 0)) s2.1).toList := rfl
      rw [d1, d2]
      generalize gs.getD k (0, 0) = g
      obtain ⟨a, b⟩ := g
      have same : ∀ o : Option Int, (∀ y, o = some y → y ≠ x) → Ex1 x (s1.1 ++ o.toList) (s2.1 ++ o.toList) := fun o ho => by
        refine ⟨fun m => ?_, fun z => ?_⟩
        · rcases List.mem_append.mp m with m | m
          · exact hx m
          · cases o with
            | none => simp at m
            | some y =>
              have e : x = y := by simpa using m
              exact ho y rfl e.symm
        · rw [List.mem_append, List.mem_append, he z]
          constructor
          · rintro ((h | h) | h)
            · exact .inl (.inl h)
            · exact .inr h
            · exact .inl (.inr h)
          · rintro ((h | h) | h)
            · exact .inl (.inl h)
            · exact .inr h
            · exact .inl (.inr h)
      by_cases ha : a ∈ s2.1
      · have ha1 : a ∈ s1.1 := (he a).mpr (.inl ha)
        by_cases hb : b ∈ s2.1
        · have hb1 : b ∈ s1.1 := (he b).mpr (.inl hb)
          have e1 : seat (a, b) s1.1 = none := by unfold seat; rw [if_pos ha1, if_pos hb1]
          have e2 : seat (a, b) s2.1 = none := by unfold seat; rw [if_pos ha, if_pos hb]
          rw [e1, e2]
          exact .inl ⟨rfl, x, same none fun y h => by cases h⟩
        · have e2 : seat (a, b) s2.1 = some b := by unfold seat; rw [if_pos ha, if_neg hb]
          by_cases hbx : b = x
          · have hb1 : b ∈ s1.1 := (he b).mpr (.inr hbx)
            have e1 : seat (a, b) s1.1 = none := by unfold seat; rw [if_pos ha1, if_pos hb1]
            rw [e1, e2]
            refine .inr (.inr ⟨rfl, by simp, fun z => ?_⟩)
            subst hbx
            simp [he z]
          · have hb1 : b ∉ s1.1 := fun m => ((he b).mp m).elim hb hbx
            have e1 : seat (a, b) s1.1 = some b := by unfold seat; rw [if_pos ha1, if_neg hb1]
            rw [e1, e2]
            exact .inl ⟨rfl, x, same (some b) fun y h => by cases h; exact hbx⟩
      · have e2 : seat (a, b) s2.1 = some a := by unfold seat; rw [if_neg ha]
        by_cases hax : a = x
        · have ha1 : a ∈ s1.1 := (he a).mpr (.inr hax)
          by_cases hb1 : b ∈ s1.1
          · have e1 : seat (a, b) s1.1 = none := by unfold seat; rw [if_pos ha1, if_pos hb1]
            rw [e1, e2]
            refine .inr (.inr ⟨rfl, by simp, fun z => ?_⟩)
            subst hax
            simp [he z]
          · have e1 : seat (a, b) s1.1 = some b := by unfold seat; rw [if_pos ha1, if_neg hb1]
            rw [e1, e2]
            subst hax
            refine .inr (.inl ⟨by simp, by simp, b, fun m => ?_, fun z => ?_⟩)
            · rcases List.mem_append.mp m with m | m
              · exact hb1 ((he b).mpr (.inl m))
              · exact hb1 ((he b).mpr (.inr (by simpa using m)))
            · simp [he z]
        · have ha1 : a ∉ s1.1 := fun m => ((he a).mp m).elim ha hax
          have e1 : seat (a, b) s1.1 = some a := by unfold seat; rw [if_neg ha1]
          rw [e1, e2]
          exact .inl ⟨rfl, x, same (some a) fun y h => by cases h; exact hax⟩
    have b1 : ∀ (f : Nat → Bool), f k = false → ((k :: r).filter f) = r.filter f := fun f h => by rw [List.filter_cons, if_neg (by rw [h]; decide)]
    have b2 : ∀ (f : Nat → Bool), f k = true → ((k :: r).filter f) = k :: r.filter f := fun f h => by rw [List.filter_cons, if_pos h]
    rcases turn with ⟨e, y, hy⟩ | ⟨e1, e2, y, hy⟩ | ⟨e1, e2, hy⟩
    · obtain ⟨i1, i2⟩ := run_ex gs r y _ _ nd hy
      refine ⟨fun j hj => ?_, ?_⟩
      · rcases List.mem_cons.mp hj with rfl | hj
        · rw [a1, a2, e]
          exact id
        · exact i1 j hj
      · rw [b1]
        · exact i2
        · rw [a1, a2, e]
          cases seat (gs.getD k (0, 0)) s2.1 <;> rfl
    · obtain ⟨i1, i2⟩ := run_ex gs r y _ _ nd hy
      refine ⟨fun j hj => ?_, ?_⟩
      · rcases List.mem_cons.mp hj with rfl | hj
        · rw [a1, a2]
          exact fun _ => e2
        · exact i1 j hj
      · rw [b1]
        · exact i2
        · rw [a1, a2]
          cases q : seat (gs.getD k (0, 0)) s1.1 with
          | none => exact absurd q e1
          | some z => rfl
    · have i1 := run_eq gs r _ _ nd hy
      refine ⟨fun j hj => ?_, ?_⟩
      · rcases List.mem_cons.mp hj with rfl | hj
        · rw [a1, a2]
          exact fun _ => e2
        · rw [List.foldl_cons, List.foldl_cons, i1 j hj]
          exact id
      · rw [b2]
        · rw [List.foldl_cons, List.foldl_cons, none_filter i1]
          exact Nat.le_refl 1
        · rw [a1, a2, e1]
          cases q : seat (gs.getD k (0, 0)) s2.1 with
          | none => exact absurd q e2
          | some z => rfl
theorem run_app (gs : G) (a b : List Nat) : runS gs (a ++ b) = b.foldl (stepS gs) (runS gs a) := by
  unfold runS
  rw [List.foldl_append]
theorem off_eq {pre post : List Nat} {k : Nat} (h : (pre ++ k :: post).Nodup) : off (pre ++ k :: post) k = pre ++ post := by
  obtain ⟨h1, h2, h3⟩ := List.nodup_append.mp h
  obtain ⟨h4, _⟩ := List.nodup_cons.mp h2
  unfold off
  rw [List.filter_append, List.filter_cons, if_neg (by simp)]
  congr 1
  · exact List.filter_eq_self.mpr fun j hj => decide_eq_true fun e => h3 j hj k List.mem_cons_self e
  · exact List.filter_eq_self.mpr fun j hj => decide_eq_true fun e => h4 (e ▸ hj)
/-- one at most, nobody harmed -/
theorem one_less {n : Nat} {gs : G} {row : List Nat} {k : Nat} (h : Ord n row) (hk : k ∈ row) :
    (∀ j ∈ off row k, own gs row j ≠ none → own gs (off row k) j ≠ none) ∧ (hl gs row k).length ≤ 1 := by
  obtain ⟨pre, post, rfl⟩ := List.append_of_mem hk
  have nd := h.nd
  obtain ⟨n1, n2, n3⟩ := List.nodup_append.mp nd
  obtain ⟨n4, n5⟩ := List.nodup_cons.mp n2
  have eo := off_eq nd
  have q1 : ∀ j ∈ pre, own gs (pre ++ k :: post) j = own gs (pre ++ post) j := fun j hj => by
    unfold own
    rw [run_app, run_app, fold_keep gs _ _ j (fun m => n3 j hj j m rfl), fold_keep gs _ _ j (fun m => n3 j hj j (List.mem_cons_of_mem _ m) rfl)]
  have q2 : (∀ j ∈ post, own gs (pre ++ k :: post) j ≠ none → own gs (pre ++ post) j ≠ none) ∧ (post.filter fun j => (own gs (pre ++ k :: post) j).isNone && (own gs (pre ++ post) j).isSome).length ≤ 1 := by
    unfold own
    rw [run_app, run_app, List.foldl_cons]
    cases hs : seat (gs.getD k (0, 0)) (runS gs pre).1 with
    | none =>
      have e := run_eq gs post (stepS gs (runS gs pre) k) (runS gs pre) n5 fun z => by
        show z ∈ (runS gs pre).1 ++ (seat (gs.getD k (0, 0)) (runS gs pre).1).toList ↔ _
        rw [hs]
        simp
      refine ⟨fun j hj => by rw [e j hj]; exact id, ?_⟩
      rw [none_filter e]
      exact Nat.zero_le _
    | some x =>
      refine run_ex gs post x _ _ n5 ⟨fun m => ?_, fun z => ?_⟩
      · unfold seat at hs
        by_cases h1 : (gs.getD k (0, 0)).1 ∈ (runS gs pre).1
        · rw [if_pos h1] at hs
          by_cases h2 : (gs.getD k (0, 0)).2 ∈ (runS gs pre).1
          · rw [if_pos h2] at hs
            cases hs
          · rw [if_neg h2] at hs
            exact h2 (Option.some.inj hs ▸ m)
        · rw [if_neg h1] at hs
          exact h1 (Option.some.inj hs ▸ m)
      · show z ∈ (runS gs pre).1 ++ (seat (gs.getD k (0, 0)) (runS gs pre).1).toList ↔ _
        rw [hs]
        simp
  unfold hl
  rw [eo]
  refine ⟨fun j hj => ?_, ?_⟩
  · rcases List.mem_append.mp hj with hj | hj
    · rw [q1 j hj]
      exact id
    · exact q2.1 j hj
  · rw [List.filter_append, none_filter q1]
    exact q2.2
/-- the law's own look: nobody is harmed -/
theorem no_harm {n : Nat} {gs : G} {row : List Nat} {k : Nat} (h : Ord n row) (hk : k ∈ row) : (off row k).filter (fun j => (own gs row j).isSome && (own gs (off row k) j).isNone) = [] := by
  refine List.filter_eq_nil_iff.mpr fun j hj => ?_
  have q := (one_less (gs := gs) h hk).1 j hj
  cases h1 : own gs row j with
  | none => simp
  | some x =>
    cases h2 : own gs (off row k) j with
    | none => exact absurd h2 (q (by rw [h1]; simp))
    | some y => simp
theorem hd_ne {gs : G} {row : List Nat} {j k : Nat} (h : hd1 gs row j = some k) : k ≠ j := by
  have m : k ∈ hl gs row j := List.mem_of_mem_head? h
  have m2 := (List.mem_filter.mp m).1
  exact of_decide_eq_true (List.mem_filter.mp m2).2
/-- helpers: the program's way and the law's -/
theorem hps_eq (gs : G) (row : List Nat) (k : Nat) : (row.filter fun j => decide (j ≠ k) && decide (hd1 gs row j = some k)) = row.filter fun j => decide (hd1 gs row j = some k) := by
  refine List.filter_congr fun j _ => ?_
  by_cases h : hd1 gs row j = some k
  · rw [decide_eq_true h, decide_eq_true (hd_ne h).symm]
    rfl
  · rw [decide_eq_false h, Bool.and_false]
theorem off_len (row : List Nat) (k : Nat) : (off row k).length ≤ row.length := List.length_filter_le _ _
theorem off_mem {row : List Nat} {j k : Nat} (h : j ∈ off row k) : j ∈ row := (List.mem_filter.mp h).1
theorem harm_all (gs : G) (row : List Nat) (k : Nat) : ((off row k).filter fun j => !decide (own gs row j = own gs (off row k) j)).isEmpty = same1 gs row k := by
  unfold same1
  rw [Bool.eq_iff_iff, List.isEmpty_iff, List.filter_eq_nil_iff, List.all_eq_true]
  constructor
  · intro h j hj
    have := h j hj
    simpa using this
  · intro h j hj
    have := h j hj
    simpa using this
theorem ord_mem {n : Nat} {row : List Nat} (h : Ord n row) {k : Nat} (hk : k < n) : k ∈ row := (ord_perm h).mem_iff.mpr (List.mem_range.mpr hk)
/-! expressions whose values are trees -/
section
variable {K : PySem.W.Frag} {σ : L2.St} {H0 H1 : Hp} {ta tb : TE} {tr : TA} {t u : Tr} {ts us : List Tr}
/-- behind H1: the value is the tree t, its objects new behind H0 -/
def Ev (σ : L2.St) (H0 H1 : Hp) (te : TE) (t : Tr) : Prop := ∀ (H : Hp) (Q : VK), Same H1 H → (∀ v H', Same H H' → Rp (nw H0 H') v t → Q v H') → te σ H Q
def EvA (σ : L2.St) (H0 H1 : Hp) (ta : TA) (ts : List Tr) : Prop := ∀ (H : Hp) (Q : List V → Hp → Prop), Same H1 H → (∀ vs H', Same H H' → RpAll (nw H0 H') vs ts → Q vs H') → ta σ H Q
/-- .. its objects all new -/
def EvN (σ : L2.St) (H1 : Hp) (te : TE) (t : Tr) : Prop := ∀ (H : Hp) (Q : VK), Same H1 H → RetN (TreeAt t) H Q → te σ H Q
theorem EvN.ev (s : Same H0 H1) (h : EvN σ H1 ta t) : Ev σ H0 H1 ta t := fun H Q s1 k => h H Q s1 fun v H' s2 r => k v H' s2 (r.mono (nw_back (s.trans s1)))
theorem Ev.n (h : ∀ H, Same H1 H → Ev σ H H ta t) : EvN σ H1 ta t := fun H Q s1 k => h H s1 H Q (Same.refl _) fun v H' s2 r => k v H' s2 r
theorem ev_c {v : V} (h : flatV v = true := by rfl) : Ev σ H0 H1 (tC v) (.leaf v) := fun H Q _ k => k v H (Same.refl _) (.leaf h)
theorem ev_var {i : Nat} {v : V} (h : σ[i]? = some (some v)) (r : Rp (nw H0 H1) v t) : Ev σ H0 H1 (tVar i) t := fun H Q s k => ⟨v, h, k v H (Same.refl _) (r.mono (nw_fwd s))⟩
theorem eva_nil : EvA σ H0 H1 tNil [] := fun H Q _ k => k [] H (Same.refl _) .nil
theorem eva_cons (h : Ev σ H0 H1 ta t) (g : EvA σ H0 H1 tr ts) : EvA σ H0 H1 (tCons ta tr) (t :: ts) := fun H Q s k =>
  h H _ s fun v H' s2 r => g H' _ (s.trans s2) fun vs H'' s3 r2 => k _ _ (s2.trans s3) (.cons (r.mono (nw_fwd s3)) r2)
theorem ev_tup (s : Same H0 H1) (h : EvA σ H0 H1 tr ts) (hn : ts.length ≤ 1000 := by decide) : Ev σ H0 H1 (tTup tr) (.node false ts) := fun H Q s1 k =>
  h H _ s1 fun vs H' s2 r => ⟨sz_le (by rw [r.length]; omega), fun p hp => by
    have s3 : Same H' (upd H' p (.tup vs)) := same_new hp
    exact k _ _ (s2.trans s3) (.node (nw_of (((s.trans s1).trans s2).free hp) upd_same) (by rw [r.length]; exact hn) (r.mono (nw_fwd s3)))⟩
theorem ev_lst (s : Same H0 H1) (h : EvA σ H0 H1 tr ts) (hn : ts.length ≤ 1000 := by decide) : Ev σ H0 H1 (tLst tr) (.node true ts) := fun H Q s1 k =>
  h H _ s1 fun vs H' s2 r => ⟨sz_le (by rw [r.length]; omega), fun p hp => by
    have s3 : Same H' (upd H' p (.lst vs)) := same_new hp
    exact k _ _ (s2.trans s3) (.node (nw_of (((s.trans s1).trans s2).free hp) upd_same) (by rw [r.length]; exact hn) (r.mono (nw_fwd s3)))⟩
theorem rp_list {H : Hp} {v : V} (r : Rp H v (.node true ts)) : ∃ a xs, v = .ref a ∧ H a = some (.lst xs) ∧ RpAll H xs ts := by
  cases r with
  | node h _ r => exact ⟨_, _, rfl, h, r⟩
theorem ev_cat (s : Same H0 H1) (h : Ev σ H0 H1 ta (.node true ts)) (g : Ev σ H0 H1 tb (.node true us)) (hn : (ts ++ us).length ≤ 1000 := by decide) : Ev σ H0 H1 (tOp rCat ta tb) (.node true (ts ++ us)) := fun H Q s1 k =>
  h H _ s1 fun v H' s2 r => g H' _ (s1.trans s2) fun w H'' s3 r2 => by
    obtain ⟨a, xs, rfl, ha, ra⟩ := rp_list (r.mono (nw_fwd s3))
    obtain ⟨b, ys, rfl, hb, rb⟩ := rp_list r2
    have e := (ra.append rb).length
    rw [List.length_append] at e
    refine ⟨a, b, xs, ys, rfl, rfl, (of_nw ha).2, (of_nw hb).2, sz_le (by omega), fun p hp => ?_⟩
    have s4 : Same H'' (upd H'' p (.lst (xs ++ ys))) := same_new hp
    exact k _ _ ((s2.trans s3).trans s4) (.node (nw_of ((((s.trans s1).trans s2).trans s3).free hp) upd_same) (by rw [List.length_append]; omega) ((ra.append rb).mono (nw_fwd s4)))
theorem RpAll.reps {H : Hp} {xs : List V} (h : RpAll H xs ts) : ∀ n : Nat, RpAll H (List.replicate n xs).flatten (List.replicate n ts).flatten
  | 0 => .nil
  | n + 1 => by
    rw [List.replicate_succ, List.replicate_succ, List.flatten_cons, List.flatten_cons]
    exact h.append (RpAll.reps h n)
theorem ev_rep {z : Int} (n : Nat) (s : Same H0 H1) (h : Ev σ H0 H1 ta (.node true ts)) (hz : z = (n : Int) := by rfl) (hl : ts.length * n ≤ 1000 := by decide) (hn : n ≤ 1000 := by decide) : Ev σ H0 H1 (tOp rRep ta (tC (.int z))) (.node true (List.replicate n ts).flatten) := fun H Q s1 k =>
  h H _ s1 fun v H' s2 r => by
    subst hz
    obtain ⟨a, xs, rfl, ha, ra⟩ := rp_list r
    have e := ra.length
    refine ⟨a, (n : Int), xs, rfl, rfl, (of_nw ha).2, by omega, by omega, sz_le (by rw [Int.toNat_natCast, e]; omega), fun p hp => ?_⟩
    rw [Int.toNat_natCast]
    have s3 : Same H' (upd H' p (.lst (List.replicate n xs).flatten)) := same_new hp
    have q := ra.reps n
    have ql : (List.replicate n xs).flatten.length ≤ 1000 := by
      rw [List.length_flatten, List.map_replicate, List.sum_replicate_nat, e, Nat.mul_comm]
      exact hl
    exact k _ _ (s2.trans s3) (.node (nw_of (((s.trans s1).trans s2).free hp) upd_same) ql (q.mono (nw_fwd s3)))
theorem ev_listOf {l : Bool} (s : Same H0 H1) (h : Ev σ H0 H1 ta (.node l ts)) : Ev σ H0 H1 (tCB (rLstOf K) (tCons ta tNil)) (.node true ts) := fun H Q s1 k =>
  h H _ s1 fun v H' s2 r => by
    cases r with
    | @node _ a xs _ ha hn ra =>
      refine ⟨a, xs, rfl, ?_, fun p hp => ?_⟩
      · cases l with
        | true => exact .inl (SqL.of (of_nw ha).2)
        | false => exact .inr (SqT.of (of_nw ha).2)
      · have s3 : Same H' (upd H' p (.lst xs)) := same_new hp
        exact k _ _ (s2.trans s3) (.node (nw_of (((s.trans s1).trans s2).free hp) upd_same) hn (ra.mono (nw_fwd s3)))
theorem evn_lc {te : TE} {vs : List Nat} {j : Nat} {z : Int} (n : Nat) (f : Nat → Tr) (he : ∀ i, i < n → EvN ((wipe σ vs).set j (some (nV i))) H1 te (f i)) (hw : ∀ x, wipe ((wipe σ vs).set j (some x)) vs = wipe σ vs := by intro _; rfl) (hz : z = (n : Int) := by rfl) (hn : n ≤ 1000 := by decide) :
    EvN σ H1 (tLcI (iRng1 (tCons (tC (.int z)) tNil)) (gName j) tYes te vs) (.node true ((List.range n).map f)) := fun H Q s1 k => by
  subst hz
  refine ⟨_, rfl, by omega, by omega, ?_⟩
  rw [Int.toNat_natCast]
  refine lc_map (runs_range n) (fun i y H => Rp H y (f i)) (fun i v A B s r => r.mono s) (by simp; omega) hw ?_ ?_
  · intro i x H2 Q hi s k
    rw [List.getElem?_map] at hi
    obtain ⟨j', e1, rfl⟩ := Option.map_eq_some_iff.mp hi
    obtain ⟨hl, e⟩ := List.getElem?_eq_some_iff.mp e1
    rw [List.getElem_range] at e
    subst e
    exact he i (by simpa using hl) H2 Q (s1.trans s) k
  · intro D ys H' hD s hy hl hR
    rw [List.length_map, List.length_range] at hl
    exact k _ _ s (.node (nw_of hD hy) (by omega) (RpAll.of (by rw [hl, List.length_map, List.length_range]) fun i v t h1 h2 => by
      rw [List.getElem?_map] at h2
      obtain ⟨j', e1, rfl⟩ := Option.map_eq_some_iff.mp h2
      obtain ⟨hl, e⟩ := List.getElem?_eq_some_iff.mp e1
      rw [List.getElem_range] at e
      subst e
      exact hR i v h1))
/-! ### the calls -/
structure TW (t : Tr) (m : Int) (gs : G) : Prop where
  d : dep t ≤ 3
  c : conv false t = webT false m gs
  wf : Wf m gs
structure TO (t : Tr) (n : Nat) (row : List Nat) : Prop where
  d : dep t ≤ 3
  c : conv false t = rowT false row
  o : Ord n row
variable {m : Int} {gs : G} {row : List Nat} {k : Nat} {tw tu : Tr}
theorem RpAll.one {H : Hp} {vs : List V} (r : RpAll H vs [t]) : ∃ v, vs = [v] ∧ Rp H v t := by
  cases r with
  | cons h r =>
    cases r
    exact ⟨_, rfl, h⟩
theorem RpAll.two {H : Hp} {vs : List V} (r : RpAll H vs [t, u]) : ∃ v w, vs = [v, w] ∧ Rp H v t ∧ Rp H w u := by
  cases r with
  | cons h r =>
    obtain ⟨w, rfl, r2⟩ := r.one
    exact ⟨_, _, rfl, h, r2⟩
theorem RpAll.three {H : Hp} {vs : List V} {v : V} (r : RpAll H vs [t, u, .leaf v]) : ∃ x y, vs = [x, y, v] ∧ Rp H x t ∧ Rp H y u := by
  cases r with
  | cons h r =>
    obtain ⟨y, z, rfl, r1, r2⟩ := r.two
    cases r2
    exact ⟨_, _, rfl, h, r1⟩
theorem evn_helped (A : EvA σ H0 H1 tr [tw, tu, .leaf (nV k)]) (hw : TW tw m gs) (ho : TO tu gs.length row) (hk : k < gs.length := by decide) : EvN σ H1 (tCall sp_helped [] E0 tr) (.leaf (optN (hd1 gs row k))) := fun H Q s1 q =>
  A H _ s1 fun vs H' s2 r => by
    obtain ⟨x, y, rfl, rx, ry⟩ := r.three
    refine ⟨x, y, m, gs, row, k, rfl, ⟨⟨tw, rx.mono nw_same, hw.d, hw.c⟩, hw.wf⟩, ⟨⟨tu, ry.mono nw_same, ho.d, ho.c⟩, ho.o⟩, hk, fun H'' s3 => q _ _ (s2.trans s3) (.leaf ?_)⟩
    cases hd1 gs row k <;> rfl
theorem calm_len (gs : G) (row : List Nat) (h : gs.length ≤ 1000) : (calm gs row).length ≤ 1000 := by
  have q := List.length_filter_le (same1 gs row) (List.range gs.length)
  rw [List.length_range] at q
  exact Nat.le_trans q h
theorem hps_len (gs : G) (row : List Nat) (k : Nat) (h : gs.length ≤ 1000) : (hps gs row k).length ≤ 1000 := by
  have q := List.length_filter_le (fun j => decide (hd1 gs row j = some k)) (List.range gs.length)
  rw [List.length_range] at q
  exact Nat.le_trans q h
theorem evn_harmless (A : EvA σ H0 H1 tr [tw, tu]) (hw : TW tw m gs) (ho : TO tu gs.length row) : EvN σ H1 (tCall sp_harmless [] E0 tr) (rowT false (calm gs row)) := fun H Q s1 q =>
  A H _ s1 fun vs H' s2 r => by
    obtain ⟨x, y, rfl, rx, ry⟩ := r.two
    refine ⟨x, y, m, gs, row, rfl, ⟨⟨tw, rx.mono nw_same, hw.d, hw.c⟩, hw.wf⟩, ⟨⟨tu, ry.mono nw_same, ho.d, ho.c⟩, ho.o⟩, fun v H'' s3 hv => ?_⟩
    obtain ⟨a, rfl, ha⟩ := hv
    exact q _ _ (s2.trans s3) (row_rp (nw_back s2 _ _ ha) (calm_len gs row hw.wf.len))
theorem evn_heard (A : EvA σ H0 H1 tr [tw, tu, .leaf (nV k)]) (hw : TW tw m gs) (ho : TO tu gs.length row) (hk : k < gs.length := by decide) : EvN σ H1 (tCall sp_heard [] E0 tr) (heardT gs row k) := fun H Q s1 q =>
  A H _ s1 fun vs H' s2 r => by
    obtain ⟨x, y, rfl, rx, ry⟩ := r.three
    exact ⟨x, y, m, gs, row, k, rfl, ⟨⟨tw, rx.mono nw_same, hw.d, hw.c⟩, hw.wf⟩, ⟨⟨tu, ry.mono nw_same, ho.d, ho.c⟩, ho.o⟩, hk, fun v H'' s3 hv => q _ _ (s2.trans s3) (hv.mono (nw_back s2))⟩
theorem evn_lists (A : EvA σ H0 H1 tr [t]) (hd : dep t ≤ 3) : EvN σ H1 (tCall (sp_lists 3) [] E0 tr) (conv true t) := fun H Q s1 q =>
  A H _ s1 fun vs H' s2 r => by
    obtain ⟨x, rfl, rx⟩ := r.one
    exact ⟨x, t, rfl, rx.mono nw_same, hd, fun v H'' s3 hv => q _ _ (s2.trans s3) (hv.mono (nw_back s2))⟩
/-- the same by keywords: written last to first -/
theorem evn_helpedK (A : EvA σ H0 H1 tr [.leaf (nV k), tu, tw]) (hw : TW tw m gs) (ho : TO tu gs.length row) (hk : k < gs.length := by decide) : EvN σ H1 (tCallK sp_helped gRev E0 tNil tr) (.leaf (optN (hd1 gs row k))) := fun H Q s1 q =>
  A H _ s1 fun vs H' s2 r => by
    cases r with
    | cons h r =>
      obtain ⟨y, x, rfl, ry, rx⟩ := r.two
      cases h
      refine ⟨x, y, m, gs, row, k, rfl, ⟨⟨tw, rx.mono nw_same, hw.d, hw.c⟩, hw.wf⟩, ⟨⟨tu, ry.mono nw_same, ho.d, ho.c⟩, ho.o⟩, hk, fun H'' s3 => q _ _ (s2.trans s3) (.leaf ?_)⟩
      cases hd1 gs row k <;> rfl
theorem evn_helpersK {C : Addr} (A : EvA σ H0 H1 tr [.leaf (nV k), tu, tw]) (hw : TW tw m gs) (ho : TO tu gs.length row) (hk : k < gs.length := by decide) (hf : own gs row k = none := by decide) : EvN σ H1 (tCallK (sp_helpers C) gRev E0 tNil tr) (rowT false (hps gs row k)) := fun H Q s1 q =>
  A H _ s1 fun vs H' s2 r => by
    cases r with
    | cons h r =>
      obtain ⟨y, x, rfl, ry, rx⟩ := r.two
      cases h
      refine ⟨x, y, m, gs, row, k, rfl, ⟨⟨tw, rx.mono nw_same, hw.d, hw.c⟩, hw.wf⟩, ⟨⟨tu, ry.mono nw_same, ho.d, ho.c⟩, ho.o⟩, hk, fun _ v H'' s3 hv => ?_, fun no => absurd hf no⟩
      obtain ⟨a, rfl, ha⟩ := hv
      exact q _ _ (s2.trans s3) (row_rp (nw_back s2 _ _ ha) (hps_len gs row k hw.wf.len))
theorem evn_harmlessK (A : EvA σ H0 H1 tr [tu, tw]) (hw : TW tw m gs) (ho : TO tu gs.length row) : EvN σ H1 (tCallK sp_harmless gRev E0 tNil tr) (rowT false (calm gs row)) := fun H Q s1 q =>
  A H _ s1 fun vs H' s2 r => by
    obtain ⟨y, x, rfl, ry, rx⟩ := r.two
    refine ⟨x, y, m, gs, row, rfl, ⟨⟨tw, rx.mono nw_same, hw.d, hw.c⟩, hw.wf⟩, ⟨⟨tu, ry.mono nw_same, ho.d, ho.c⟩, ho.o⟩, fun v H'' s3 hv => ?_⟩
    obtain ⟨a, rfl, ha⟩ := hv
    exact q _ _ (s2.trans s3) (row_rp (nw_back s2 _ _ ha) (calm_len gs row hw.wf.len))
theorem evn_row (h : tr = tNil) : EvN σ H1 (tCall sp_row_net [] E0 tr) (webT false 5 rowN) := fun H Q s1 q => by
  subst h
  exact ⟨rfl, q⟩
theorem evn_round (h : tr = tNil) : EvN σ H1 (tCall sp_round_net [] E0 tr) (webT false 5 roundN) := fun H Q s1 q => by
  subst h
  exact ⟨rfl, q⟩
theorem asg_ev {D : Ends} {H : Hp} {g : TG} {t : Tr} (h : Ev σ H0 H ta t) (k : ∀ v H', Same H H' → Rp (nw H0 H') v t → g v σ H' D.nx) : tAsg ta g D σ H :=
  h H _ (Same.refl _) fun v H' s r => k v H' s r
theorem ev_use {H : Hp} {Q : VK} {t : Tr} (h : Ev σ H0 H ta t) (k : ∀ v H', Same H H' → Rp (nw H0 H') v t → Q v H') : ta σ H Q := h H _ (Same.refl _) k
theorem set_ev {D : Ends} {H : Hp} {i : Nat} {t : Tr} (h : Ev σ H0 H ta t) (k : ∀ v H', Same H H' → Rp (nw H0 H') v t → D.nx (σ.set i (some v)) H') : tAsg ta (gName i) D σ H :=
  h H _ (Same.refl _) fun v H' s r => k v H' s r
end
theorem keepT {t : Addr} {X H1 H2 : Hp} (ht : ∃ o, X t = some o) (s : SameB t H1 H2) : Same (nw X H1) (nw X H2) := fun b o q => by
  obtain ⟨q1, q2⟩ := of_nw q
  obtain ⟨u, hu⟩ := ht
  exact nw_of q1 (s b o (fun e => by rw [e, hu] at q1; cases q1) q2)
theorem keepD {D : Addr} {X H1 : Hp} {o : HO} (ht : ∃ o, X D = some o) : Same (nw X H1) (nw X (upd H1 D o)) := fun b u q => by
  obtain ⟨q1, q2⟩ := of_nw q
  obtain ⟨w, hu⟩ := ht
  exact nw_of q1 (by rw [upd_ne (fun e => by rw [e, hu] at q1; cases q1)]; exact q2)
theorem TinAt.some {H : Hp} {t : Addr} {m : Int} (h : TinAt H t m) : ∃ o, H t = some o := by
  obtain ⟨a, b, c, h, _⟩ := h
  exact ⟨_, h⟩
theorem TinAt.keep {H H' : Hp} {t : Addr} {m : Int} (h : TinAt H t m) (s : Same H H') : TinAt H' t m := by
  obtain ⟨a, b, c, h, r⟩ := h
  exact ⟨a, b, c, s _ _ h, r⟩
theorem TinAt.put {H : Hp} {t D : Addr} {m : Int} {o : HO} (h : TinAt H t m) (n : D ≠ t) : TinAt (upd H D o) t m := by
  obtain ⟨a, b, c, h, r⟩ := h
  exact ⟨a, b, c, by rw [upd_ne n.symm]; exact h, r⟩
theorem TinAt.le {H : Hp} {t : Addr} {m n : Int} (h : TinAt H t m) (l : m ≤ n) : TinAt H t n := by
  obtain ⟨a, b, c, h, r1, r2, r3, r4⟩ := h
  exact ⟨a, b, c, h, r1, r2, r3, Int.le_trans r4 l⟩
theorem TinAt.ne {H : Hp} {t p : Addr} {m : Int} (h : TinAt H t m) (n : H p = none) : p ≠ t := fun e => by
  obtain ⟨o, h⟩ := h.some
  rw [← e, n] at h
  cases h
theorem SameB.fr {H H' : Hp} {t p : Addr} {m : Int} (s : SameB t H H') (tin : TinAt H' t m) (h : H' p = none) : H p = none := by
  cases e : H p with
  | none => rfl
  | some o =>
    have q := s p o (tin.ne h) e
    rw [h] at q
    cases q
theorem SameB.trans {H H1 H2 : Hp} {t : Addr} (s : SameB t H H1) (u : SameB t H1 H2) : SameB t H H2 := fun b o hb e => u b o hb (s b o hb e)
theorem same_b {H H1 : Hp} (s : Same H H1) (t : Addr) : SameB t H H1 := fun b o _ e => s b o e
theorem SameB.put {H H1 : Hp} {t D : Addr} {o : HO} (s : SameB t H H1) (h : H D = none) : SameB t H (upd H1 D o) := fun b u hb e => by
  rw [upd_ne (ne_of_none e h)]
  exact s b u hb e
theorem heard_no {gs : G} {row : List Nat} {k : Nat} (h : own gs row k ≠ none) : heardT gs row k = cannotT := if_neg h
theorem heard_yes {gs : G} {row : List Nat} {k : Nat} (h : own gs row k = none) (r : List Nat) (e : hps gs row k = r) : heardT gs row k = rowT false r := by
  rw [← e]
  exact if_pos h
/-! each def, walked and read -/
section
variable {P : Program} {w : World} {K : PySem.W.Frag} {mg : Str → Option Value} {base : Heap} {C : Addr}
theorem sc_is_number : FnScope ["thing"] ["thing"] (defScope (top 5)) := ⟨rfl, rfl, rfl, by decide +kernel, rfl, by decide +kernel, by decide +kernel⟩

theorem h_is_number (F : At K mg "is_number" 5) (Z : Free mg) : Has P w K mg base CX0 1 "is_number" ["thing"] sp_is_number := by
  refine Has.mk0 F sc_is_number (fun _ _ _ _ _ _ us hl => match us, hl with | [_], _ => rfl) (fun vs H Q E h => by first | (obtain ⟨rfl, _⟩ := h; rfl) | (obtain ⟨_, rfl, _⟩ := h; rfl) | (obtain ⟨_, _, rfl, _⟩ := h; rfl) | (obtain ⟨_, _, _, rfl, _⟩ := h; rfl) | (obtain ⟨_, _, _, _, rfl, _⟩ := h; rfl) | (obtain ⟨_, _, _, _, _, rfl, _⟩ := h; rfl) | (obtain ⟨_, _, _, _, _, _, rfl, _⟩ := h; rfl) | (obtain ⟨_, _, _, _, _, _, _, rfl, _⟩ := h; rfl)) fun f cdv A outer s H vs Q E hr h => ?_
  refine ⟨_, (pss_one (ps_ret (pe_and (pe_callB (k_isi K) rfl Z.isinstance PyProof.Rows.boot_isinstance (pa_cons (pv 0) (pa_cons (pe_bltn (v := V.ty "int") rfl Z.int PyProof.Rows.boot_int rfl) pa_nil))) (pe_one (pe_not (pe_callB (k_isi K) rfl Z.isinstance PyProof.Rows.boot_isinstance (pa_cons (pv 0) (pa_cons (pe_bltn (v := V.ty "bool") rfl Z.bool PyProof.Rows.boot_bool rfl) pa_nil)))))))), ?_⟩
  obtain ⟨i, rfl, q⟩ := h
  refine ⟨_, rfl, ?_⟩
  refine isi_t (K := K) "int" (C := "int") (t := .leaf (.int i)) (.leaf rfl) rfl (b := true) (by decide +kernel) ?_
  refine ⟨true, rfl, iteT ?_⟩
  refine ⟨_, rfl, ?_⟩
  refine isi_t (K := K) "int" (C := "bool") (t := .leaf (.int i)) (.leaf rfl) rfl (b := false) (by decide +kernel) ?_
  exact ⟨false, rfl, q⟩
theorem sc_is_from : FnScope ["thing", "least"] ["thing", "least"] (defScope (top 6)) := ⟨rfl, rfl, rfl, by decide +kernel, rfl, by decide +kernel, by decide +kernel⟩

theorem h_is_from (F : At K mg "is_from" 6) (Z : Free mg) (c_is_number : Has P w K mg base CX0 1 "is_number" ["thing"] sp_is_number) : Has P w K mg base CX0 2 "is_from" ["thing", "least"] sp_is_from := by
  refine Has.mk0 F sc_is_from (fun _ _ _ _ _ _ us hl => match us, hl with | [_, _], _ => rfl) (fun vs H Q E h => by first | (obtain ⟨rfl, _⟩ := h; rfl) | (obtain ⟨_, rfl, _⟩ := h; rfl) | (obtain ⟨_, _, rfl, _⟩ := h; rfl) | (obtain ⟨_, _, _, rfl, _⟩ := h; rfl) | (obtain ⟨_, _, _, _, rfl, _⟩ := h; rfl) | (obtain ⟨_, _, _, _, _, rfl, _⟩ := h; rfl) | (obtain ⟨_, _, _, _, _, _, rfl, _⟩ := h; rfl) | (obtain ⟨_, _, _, _, _, _, _, rfl, _⟩ := h; rfl)) fun f cdv A outer s H vs Q E hr h => ?_
  refine ⟨_, (pss_one (ps_ret (pe_and (pe_has c_is_number hr (by decide) rfl (pa_cons (pv 0) pa_nil)) (pe_one (pe_cmpR op_ge (pv 0) (pv 1) (nomark _)))))), ?_⟩
  obtain ⟨i, j, rfl, hij, q⟩ := h
  refine ⟨_, rfl, ⟨i, rfl, true, rfl, iteT ?_⟩⟩
  refine ⟨_, rfl, _, rfl, i, j, rfl, rfl, ?_⟩
  show Q (.bl (decide (j ≤ i))) H
  rw [decide_eq_true hij]
  exact q
theorem sc_is_within : FnScope ["thing", "least", "most"] ["thing", "least", "most"] (defScope (top 7)) := ⟨rfl, rfl, rfl, by decide +kernel, rfl, by decide +kernel, by decide +kernel⟩

theorem h_is_within (F : At K mg "is_within" 7) (Z : Free mg) (c_is_number : Has P w K mg base CX0 1 "is_number" ["thing"] sp_is_number) : Has P w K mg base CX0 2 "is_within" ["thing", "least", "most"] sp_is_within := by
  refine Has.mk0 F sc_is_within (fun _ _ _ _ _ _ us hl => match us, hl with | [_, _, _], _ => rfl) (fun vs H Q E h => by first | (obtain ⟨rfl, _⟩ := h; rfl) | (obtain ⟨_, rfl, _⟩ := h; rfl) | (obtain ⟨_, _, rfl, _⟩ := h; rfl) | (obtain ⟨_, _, _, rfl, _⟩ := h; rfl) | (obtain ⟨_, _, _, _, rfl, _⟩ := h; rfl) | (obtain ⟨_, _, _, _, _, rfl, _⟩ := h; rfl) | (obtain ⟨_, _, _, _, _, _, rfl, _⟩ := h; rfl) | (obtain ⟨_, _, _, _, _, _, _, rfl, _⟩ := h; rfl)) fun f cdv A outer s H vs Q E hr h => ?_
  refine ⟨_, (pss_one (ps_ret (pe_and (pe_has c_is_number hr (by decide) rfl (pa_cons (pv 0) pa_nil)) (pe_one (pe_chain op_le op_le (pv 1) (pv 0) (pv 2)))))), ?_⟩
  obtain ⟨i, a, b, rfl, ⟨h1, h2⟩, q⟩ := h
  refine ⟨_, rfl, ⟨i, rfl, true, rfl, iteT ?_⟩⟩
  refine ⟨_, rfl, _, rfl, a, i, rfl, rfl, true, congrArg V.bl (decide_eq_true h1), iteT ?_⟩
  refine ⟨_, rfl, i, b, rfl, rfl, ?_⟩
  show Q (.bl (decide (i ≤ b))) H
  rw [decide_eq_true h2]
  exact q
theorem sc_is_long : FnScope ["thing", "length"] ["thing", "length"] (defScope (top 8)) := ⟨rfl, rfl, rfl, by decide +kernel, rfl, by decide +kernel, by decide +kernel⟩

theorem h_is_long (F : At K mg "is_long" 8) (Z : Free mg) : Has P w K mg base CX0 1 "is_long" ["thing", "length"] sp_is_long := by
  refine Has.mk0 F sc_is_long (fun _ _ _ _ _ _ us hl => match us, hl with | [_, _], _ => rfl) (fun vs H Q E h => by first | (obtain ⟨rfl, _⟩ := h; rfl) | (obtain ⟨_, rfl, _⟩ := h; rfl) | (obtain ⟨_, _, rfl, _⟩ := h; rfl) | (obtain ⟨_, _, _, rfl, _⟩ := h; rfl) | (obtain ⟨_, _, _, _, rfl, _⟩ := h; rfl) | (obtain ⟨_, _, _, _, _, rfl, _⟩ := h; rfl) | (obtain ⟨_, _, _, _, _, _, rfl, _⟩ := h; rfl) | (obtain ⟨_, _, _, _, _, _, _, rfl, _⟩ := h; rfl)) fun f cdv A outer s H vs Q E hr h => ?_
  refine ⟨_, (pss_one (ps_ret (pe_and (pe_callB (k_isi K) rfl Z.isinstance PyProof.Rows.boot_isinstance (pa_cons (pv 0) (pa_cons (pe_bltn (v := V.ty "tuple") rfl Z.tuple PyProof.Rows.boot_tuple rfl) pa_nil))) (pe_one (pe_cmpR op_eq (pe_callB (k_len K) rfl Z.len PySem.boot_len (pa_cons (pv 0) pa_nil)) (pv 1) (nomark _)))))), ?_⟩
  obtain ⟨a, xs, rfl, ha, q⟩ := h
  refine ⟨_, rfl, ⟨.ref a, .ty "tuple", .type "tuple", _, true, rfl, .ty "tuple", .base (.tup ha), kit_ty (by decide +kernel), true, rfl, iteT ?_⟩⟩
  refine ⟨_, rfl, a, xs, rfl, .inr (SqT.of ha), _, rfl, rfl, ?_⟩
  rw [decide_eq_true rfl]
  exact q
theorem sc_tupled : FnScope ["value", "own"] ["value"] (defScope (top 9)) := ⟨rfl, rfl, rfl, by decide +kernel, rfl, by decide +kernel, by decide +kernel⟩

theorem r_tupled  (F : At K mg "tupled" 9) (Z : Free mg) : ∀ n : Nat, Has P w K mg base CX0 (n + 1) "tupled" ["value"] (sp_tupled n)
  | 0 => by
    have c_tupled : Has P w K mg base CX0 0 "tupled" ["value"] sp_none := none_has F (fun _ _ _ _ _ _ us hl => match us, hl with | [_], _ => rfl)
    refine Has.mk0 F sc_tupled (fun _ _ _ _ _ _ us hl => match us, hl with | [_], _ => rfl) (fun vs H Q E h => by first | (obtain ⟨rfl, _⟩ := h; rfl) | (obtain ⟨_, rfl, _⟩ := h; rfl) | (obtain ⟨_, _, rfl, _⟩ := h; rfl) | (obtain ⟨_, _, _, rfl, _⟩ := h; rfl) | (obtain ⟨_, _, _, _, rfl, _⟩ := h; rfl) | (obtain ⟨_, _, _, _, _, rfl, _⟩ := h; rfl) | (obtain ⟨_, _, _, _, _, _, rfl, _⟩ := h; rfl) | (obtain ⟨_, _, _, _, _, _, _, rfl, _⟩ := h; rfl)) fun f cdv A outer s H vs Q E hr h => ?_
    refine ⟨_, (pss_one (ps_ret (pe_ifExp (pt_val (pe_callB (k_isiT K) rfl Z.isinstance PyProof.Rows.boot_isinstance (pa_cons (pv 0) (pa_cons (pe_tup (pa_cons (pe_bltn (v := V.ty "list") rfl Z.list PyProof.Rows.boot_list rfl) (pa_cons (pe_bltn (v := V.ty "tuple") rfl Z.tuple PyProof.Rows.boot_tuple rfl) pa_nil))) pa_nil)))) (pe_callTy (k_tupOf K) rfl Z.tuple PyProof.Rows.boot_tuple (pa_cons (pe_lcI (own := [("own", 1)]) (g := gName 1) (tt := tYes) rfl sc_tupled.nd (k_both K (pv 0)) (blkOk_by (own := [("own", 1)]) (N := ["value", "own"]) (sc := defScope (top 9)) (by decide +kernel)) (fun _ _ _ _ _ => pg_name (i := 1) sc_tupled.nd rfl (Or.inl rfl)) (fun _ _ _ _ _ => pts_nil) (fun _ _ _ _ _ => (pe_has c_tupled hr (by omega) rfl (pa_cons (pv 1) pa_nil)))) pa_nil)) (pv 0)))), ?_⟩
    obtain ⟨v, t, rfl, r, d, q⟩ := h
    cases r with
    | node _ _ _ => exact absurd d (by show ¬ (_ + 1 ≤ 0); omega)
    | leaf hf =>
      refine ⟨v, rfl, by show 2 ≤ sizeLine; decide, fun p hp => ?_⟩
      refine isi_2 (K := K) _ (.leaf hf) rfl upd_same (leaf_no hf).1 (leaf_no hf).2 ?_
      refine ⟨false, rfl, iteF ?_⟩
      exact ⟨v, rfl, q v _ (same_new hp) (.leaf hf)⟩
  | n + 1 => by
    have c_tupled := r_tupled F Z n
    refine Has.mk0 F sc_tupled (fun _ _ _ _ _ _ us hl => match us, hl with | [_], _ => rfl) (fun vs H Q E h => by first | (obtain ⟨rfl, _⟩ := h; rfl) | (obtain ⟨_, rfl, _⟩ := h; rfl) | (obtain ⟨_, _, rfl, _⟩ := h; rfl) | (obtain ⟨_, _, _, rfl, _⟩ := h; rfl) | (obtain ⟨_, _, _, _, rfl, _⟩ := h; rfl) | (obtain ⟨_, _, _, _, _, rfl, _⟩ := h; rfl) | (obtain ⟨_, _, _, _, _, _, rfl, _⟩ := h; rfl) | (obtain ⟨_, _, _, _, _, _, _, rfl, _⟩ := h; rfl)) fun f cdv A outer s H vs Q E hr h => ?_
    refine ⟨_, (pss_one (ps_ret (pe_ifExp (pt_val (pe_callB (k_isiT K) rfl Z.isinstance PyProof.Rows.boot_isinstance (pa_cons (pv 0) (pa_cons (pe_tup (pa_cons (pe_bltn (v := V.ty "list") rfl Z.list PyProof.Rows.boot_list rfl) (pa_cons (pe_bltn (v := V.ty "tuple") rfl Z.tuple PyProof.Rows.boot_tuple rfl) pa_nil))) pa_nil)))) (pe_callTy (k_tupOf K) rfl Z.tuple PyProof.Rows.boot_tuple (pa_cons (pe_lcI (own := [("own", 1)]) (g := gName 1) (tt := tYes) rfl sc_tupled.nd (k_both K (pv 0)) (blkOk_by (own := [("own", 1)]) (N := ["value", "own"]) (sc := defScope (top 9)) (by decide +kernel)) (fun _ _ _ _ _ => pg_name (i := 1) sc_tupled.nd rfl (Or.inl rfl)) (fun _ _ _ _ _ => pts_nil) (fun _ _ _ _ _ => (pe_has c_tupled hr (by omega) rfl (pa_cons (pv 1) pa_nil)))) pa_nil)) (pv 0)))), ?_⟩
    obtain ⟨v, t, rfl, r, d, q⟩ := h
    cases r with
    | leaf hf =>
      refine ⟨v, rfl, by show 2 ≤ sizeLine; decide, fun p hp => ?_⟩
      refine isi_2 (K := K) _ (.leaf hf) rfl upd_same (leaf_no hf).1 (leaf_no hf).2 ?_
      refine ⟨false, rfl, iteF ?_⟩
      exact ⟨v, rfl, q v _ (same_new hp) (.leaf hf)⟩
    | @node l a xs ts ha hn ra =>
      refine ⟨.ref a, rfl, by show 2 ≤ sizeLine; decide, fun p hp => ?_⟩
      obtain ⟨b, b2, h1, h2, h3⟩ := node_yes l ts
      have s1 : Same H (upd H p (.tup [.ty "list", .ty "tuple"])) := same_new hp
      refine isi_2 (K := K) _ (Rp.node (s1 _ _ ha) hn (ra.mono s1)) rfl upd_same h1 h2 ?_
      rw [h3]
      refine ⟨true, rfl, iteT ?_⟩
      generalize hH1 : upd H p (.tup [.ty "list", .ty "tuple"]) = H1 at s1
      have ha1 := s1 _ _ ha
      have dts : ∀ t ∈ ts, dep t ≤ n := fun t ht => Nat.le_trans (deps_le ht) (by have d' : deps ts + 1 ≤ n + 1 := d; omega)
      have go : ∀ J : It, Runs J H1 xs → lcIn J (gName 1) tYes (tCall (sp_tupled n) [] E0 (tCons (tVar 1) tNil)) [1] (L2.start ["value", "own"] [.ref a]) H1 (fun x H2 => rTupOf K [x] H2 Q) := fun J rn => by
        refine lc_map rn (fun i y H => ∃ t, ts[i]? = some t ∧ Rp H y (conv false t)) (fun i y H H' s ⟨t, e, r⟩ => ⟨t, e, r.mono s⟩) ?_ (fun _ => by rfl) ?_ ?_
        · omega
        · intro i x H2 Q hi s k
          obtain ⟨t, ht, rt⟩ := ra.get hi
          exact ⟨x, rfl, x, t, rfl, rt.mono (s1.trans s), dts t (List.mem_of_getElem? ht), fun v H' s r => k v H' s ⟨t, ht, r⟩⟩
        · intro D ys H' hD s hy hl hR
          refine ⟨D, ys, rfl, .inl ⟨SqL.of hy, fun p2 hp2 => ?_⟩⟩
          have s2 : Same H (upd H' p2 (.tup ys)) := (s1.trans s).trans (same_new hp2)
          refine q _ _ s2 ?_
          show Rp _ _ (.node false (convs false ts))
          rw [convs_eq]
          refine tree_of (conv false) (by rw [hl, ra.length]) (by omega) (nw_of ((s1.trans s).free hp2) upd_same) fun i y hi => ?_
          obtain ⟨t, e, r⟩ := hR i y hi
          exact ⟨t, e, r.mono ((nw_back s1).trans (nw_fwd (same_new hp2)))⟩
      cases l with
      | true => exact ⟨.ref a, rfl, a, xs, rfl, .inl ⟨SqL.of ha1, go _ (runs_list (SqL.of ha1))⟩⟩
      | false => exact ⟨.ref a, rfl, a, xs, rfl, .inr ⟨SqT.of ha1, go _ (runs_tup (SqT.of ha1))⟩⟩
theorem h_tupled (F : At K mg "tupled" 9) (Z : Free mg) : Has P w K mg base CX0 4 "tupled" ["value"] (sp_tupled 3) := (r_tupled F Z 3)
theorem sc_is_guest_of : FnScope ["many", "thing", "own"] ["many", "thing"] (defScope (top 11)) := ⟨rfl, rfl, rfl, by decide +kernel, rfl, by decide +kernel, by decide +kernel⟩

theorem h_is_guest_of (F : At K mg "is_guest_of" 11) (Z : Free mg) (c_is_long : Has P w K mg base CX0 1 "is_long" ["thing", "length"] sp_is_long) (c_is_within : Has P w K mg base CX0 2 "is_within" ["thing", "least", "most"] sp_is_within) : Has P w K mg base CX0 3 "is_guest_of" ["many", "thing"] sp_is_guest_of := by
  refine Has.mk0 F sc_is_guest_of (fun _ _ _ _ _ _ us hl => match us, hl with | [_, _], _ => rfl) (fun vs H Q E h => by first | (obtain ⟨rfl, _⟩ := h; rfl) | (obtain ⟨_, rfl, _⟩ := h; rfl) | (obtain ⟨_, _, rfl, _⟩ := h; rfl) | (obtain ⟨_, _, _, rfl, _⟩ := h; rfl) | (obtain ⟨_, _, _, _, rfl, _⟩ := h; rfl) | (obtain ⟨_, _, _, _, _, rfl, _⟩ := h; rfl) | (obtain ⟨_, _, _, _, _, _, rfl, _⟩ := h; rfl) | (obtain ⟨_, _, _, _, _, _, _, rfl, _⟩ := h; rfl)) fun f cdv A outer s H vs Q E hr h => ?_
  refine ⟨_, (pss_one (ps_ret (pe_and (pe_has c_is_long hr (by decide) rfl (pa_cons (pv 1) (pa_cons pe_int pa_nil))) (pe_and (pe_callB (k_all K) rfl Z.all PyProof.Rows.boot_all (pa_cons (pe_lcI (own := [("own", 2)]) (g := gName 2) (tt := tYes) rfl sc_is_guest_of.nd (k_tup K (pv 1)) (blkOk_by (own := [("own", 2)]) (N := ["many", "thing", "own"]) (sc := defScope (top 11)) (by decide +kernel)) (fun _ _ _ _ _ => pg_name (i := 2) sc_is_guest_of.nd rfl (Or.inl rfl)) (fun _ _ _ _ _ => pts_nil) (fun _ _ _ _ _ => (pe_has c_is_within hr (by decide) rfl (pa_cons (pv 2) (pa_cons pe_int (pa_cons (pe_op op_sub (pv 0) pe_int) pa_nil)))))) pa_nil)) (pe_one (pe_cmpR op_ne (pe_ix (k_ixT K) (pv 1) pe_int (fun _ _ => rfl)) (pe_ix (k_ixT K) (pv 1) pe_int (fun _ _ => rfl)) (nomark _))))))), ?_⟩
  obtain ⟨m, v, g, rfl, hv, ⟨h1, h2, h3⟩, q⟩ := h
  obtain ⟨p, rfl, hp⟩ := hv.pair
  refine ⟨_, rfl, ⟨p, [.int g.1, .int g.2], rfl, hp, true, rfl, iteT ?_⟩⟩
  refine ⟨_, rfl, p, rfl, ⟨_, SqT.of hp⟩, ?_⟩
  refine lc_map (runs_tup (SqT.of hp)) (fun _ y _ => y = .bl true) (fun _ _ _ _ _ e => e) (by show 2 ≤ 10000; decide) (fun _ => by rfl) ?_ ?_
  · intro i x H2 Q hi s k
    refine ⟨_, rfl, _, rfl, m, 1, rfl, rfl, ?_⟩
    have hx : ∃ z : Int, x = .int z ∧ 0 ≤ z ∧ z ≤ m - 1 := by
      match i, hi with
      | 0, hi => exact ⟨g.1, (Option.some.inj hi).symm, h1⟩
      | 1, hi => exact ⟨g.2, (Option.some.inj hi).symm, h2⟩
      | i + 2, hi => simp at hi
    obtain ⟨z, rfl, z1, z2⟩ := hx
    exact ⟨z, 0, m - 1, rfl, ⟨z1, z2⟩, k _ _ (Same.refl _) rfl⟩
  · intro D ys H' hD s hy hl hR
    have e : ys = ([true, true] : List Bool).map V.bl := by
      match ys, hl with
      | [a, b], _ =>
        rw [show a = V.bl true from hR 0 a rfl, show b = V.bl true from hR 1 b rfl]
        rfl
    refine ⟨D, [true, true], rfl, SqL.of (by rw [hy, e]), true, rfl, iteT ?_⟩
    have hp' := s _ _ hp
    refine ⟨.ref p, rfl, p, _, 0, _, rfl, rfl, SqT.of hp', atI_nat (j := 0) rfl, ?_⟩
    refine ⟨.ref p, rfl, p, _, 1, _, rfl, rfl, SqT.of hp', atI_nat (j := 1) rfl, rfl, ?_⟩
    rw [decide_eq_false (fun e => h3 (V.int.inj e))]
    exact q H' s
theorem sc_is_web : FnScope ["thing", "own"] ["thing"] (defScope (top 12)) := ⟨rfl, rfl, rfl, by decide +kernel, rfl, by decide +kernel, by decide +kernel⟩

theorem h_is_web (F : At K mg "is_web" 12) (Z : Free mg) (c_is_long : Has P w K mg base CX0 1 "is_long" ["thing", "length"] sp_is_long) (c_is_from : Has P w K mg base CX0 2 "is_from" ["thing", "least"] sp_is_from) (c_is_guest_of : Has P w K mg base CX0 3 "is_guest_of" ["many", "thing"] sp_is_guest_of) : Has P w K mg base CX0 4 "is_web" ["thing"] sp_is_web := by
  refine Has.mk0 F sc_is_web (fun _ _ _ _ _ _ us hl => match us, hl with | [_], _ => rfl) (fun vs H Q E h => by first | (obtain ⟨rfl, _⟩ := h; rfl) | (obtain ⟨_, rfl, _⟩ := h; rfl) | (obtain ⟨_, _, rfl, _⟩ := h; rfl) | (obtain ⟨_, _, _, rfl, _⟩ := h; rfl) | (obtain ⟨_, _, _, _, rfl, _⟩ := h; rfl) | (obtain ⟨_, _, _, _, _, rfl, _⟩ := h; rfl) | (obtain ⟨_, _, _, _, _, _, rfl, _⟩ := h; rfl) | (obtain ⟨_, _, _, _, _, _, _, rfl, _⟩ := h; rfl)) fun f cdv A outer s H vs Q E hr h => ?_
  refine ⟨_, (pss_cons (ps_if (PW.pt (pw_or (pt_not (pt_val (pe_has c_is_long hr (by decide) rfl (pa_cons (pv 0) (pa_cons pe_int pa_nil))))) (pw_or (pt_not (pt_val (pe_has c_is_from hr (by decide) rfl (pa_cons (pe_ix (k_ixT K) (pv 0) pe_int (fun _ _ => rfl)) (pa_cons pe_int pa_nil))))) (pw_or1 (pt_not (pt_val (pe_callB (k_isi K) rfl Z.isinstance PyProof.Rows.boot_isinstance (pa_cons (pe_ix (k_ixT K) (pv 0) pe_int (fun _ _ => rfl)) (pa_cons (pe_bltn (v := V.ty "tuple") rfl Z.tuple PyProof.Rows.boot_tuple rfl) pa_nil))))))))) (pss_one (ps_ret pe_bl)) pss_nil)
      (pss_one (ps_ret (pe_callB (k_all K) rfl Z.all PyProof.Rows.boot_all (pa_cons (pe_lcI (own := [("own", 1)]) (g := gName 1) (tt := tYes) rfl sc_is_web.nd (k_tup K (pe_ix (k_ixT K) (pv 0) pe_int (fun _ _ => rfl))) (blkOk_by (own := [("own", 1)]) (N := ["thing", "own"]) (sc := defScope (top 12)) (by decide +kernel)) (fun _ _ _ _ _ => pg_name (i := 1) sc_is_web.nd rfl (Or.inl rfl)) (fun _ _ _ _ _ => pts_nil) (fun _ _ _ _ _ => (pe_has c_is_guest_of hr (by decide) rfl (pa_cons (pe_ix (k_ixT K) (pv 0) pe_int (fun _ _ => rfl)) (pa_cons (pv 1) pa_nil))))) pa_nil))))), ?_⟩
  obtain ⟨v, m, gs, rfl, r, wf, q⟩ := h
  obtain ⟨a, b, ps, W⟩ := r.web
  obtain rfl := W.v
  refine ⟨.ref a, rfl, a, [.int m, .ref b], rfl, W.a, true, rfl, iteF ?_⟩
  refine ⟨.ref a, rfl, a, _, 0, _, rfl, rfl, SqT.of W.a, atI_nat (j := 0) rfl, m, 1, rfl, wf.m1, true, rfl, iteF ?_⟩
  refine ⟨.ref a, rfl, a, _, 1, _, rfl, rfl, SqT.of W.a, atI_nat (j := 1) rfl, ⟨.ref b, .ty "tuple", .type "tuple", _, true, rfl, .ty "tuple", .base (.tup W.b), kit_ty (by decide +kernel), true, rfl, iteF ?_⟩⟩
  refine ⟨.ref a, rfl, a, _, 1, _, rfl, rfl, SqT.of W.a, atI_nat (j := 1) rfl, b, rfl, ⟨_, SqT.of W.b⟩, ?_⟩
  refine lc_map (runs_tup (SqT.of W.b)) (fun _ y _ => y = .bl true) (fun _ _ _ _ _ e => e) (by have := W.len; have := wf.len; omega) (fun _ => by rfl) ?_ ?_
  · intro i x H2 Q hi s k
    obtain ⟨g, p, hg, rfl, hp⟩ := W.item hi
    have h1 := wf.in_ g (List.mem_of_getElem? hg)
    exact ⟨.ref a, rfl, a, _, 0, _, rfl, rfl, SqT.of (s _ _ W.a), atI_nat (j := 0) rfl, .ref p, rfl, m, .ref p, g, rfl, pair_rp (s _ _ hp), h1, fun H' s' => k _ _ s' rfl⟩
  · intro D ys H' hD s hy hl hR
    refine ⟨D, List.replicate ys.length true, rfl, SqL.of (by rw [hy, ← bl_all hR]), ?_⟩
    rw [all_true2]
    exact q H' s
theorem sc_sure_web : FnScope ["web", "own"] ["web"] (defScope (top 13)) := ⟨rfl, rfl, rfl, by decide +kernel, rfl, by decide +kernel, by decide +kernel⟩

theorem h_sure_web (F : At K mg "sure_web" 13) (Z : Free mg) (c_tupled : Has P w K mg base CX0 4 "tupled" ["value"] (sp_tupled 3)) (c_is_web : Has P w K mg base CX0 4 "is_web" ["thing"] sp_is_web) : Has P w K mg base CX0 5 "sure_web" ["web"] sp_sure_web := by
  refine Has.mk0 F sc_sure_web (fun _ _ _ _ _ _ us hl => match us, hl with | [_], _ => rfl) (fun vs H Q E h => by first | (obtain ⟨rfl, _⟩ := h; rfl) | (obtain ⟨_, rfl, _⟩ := h; rfl) | (obtain ⟨_, _, rfl, _⟩ := h; rfl) | (obtain ⟨_, _, _, rfl, _⟩ := h; rfl) | (obtain ⟨_, _, _, _, rfl, _⟩ := h; rfl) | (obtain ⟨_, _, _, _, _, rfl, _⟩ := h; rfl) | (obtain ⟨_, _, _, _, _, _, rfl, _⟩ := h; rfl) | (obtain ⟨_, _, _, _, _, _, _, rfl, _⟩ := h; rfl)) fun f cdv A outer s H vs Q E hr h => ?_
  refine ⟨_, (pss_cons (ps_set (i := 1) sc_sure_web.nd rfl (.inl rfl) (pe_has c_tupled hr (by decide) rfl (pa_cons (pv 0) pa_nil)))
      (pss_cons (ps_if (pt_not (pt_val (pe_has c_is_web hr (by decide) rfl (pa_cons (pv 1) pa_nil)))) (pss_one ps_never) pss_nil)
      (pss_one (ps_ret (pv 1))))), ?_⟩
  obtain ⟨v, m, gs, rfl, ⟨⟨t, r, d, c⟩, wf⟩, q⟩ := h
  refine ⟨v, rfl, v, t, rfl, r, d, fun u H1 s1 r1 => ?_⟩
  rw [c] at r1
  refine ⟨u, rfl, u, m, gs, rfl, r1.mono nw_same, wf, fun H2 s2 => ?_⟩
  refine ⟨true, rfl, iteF ?_⟩
  exact ⟨u, rfl, q u H2 (s1.trans s2) (r1.mono (nw_fwd s2))⟩
theorem sc_sure_guest : FnScope ["web", "guest"] ["web", "guest"] (defScope (top 14)) := ⟨rfl, rfl, rfl, by decide +kernel, rfl, by decide +kernel, by decide +kernel⟩

theorem h_sure_guest (F : At K mg "sure_guest" 14) (Z : Free mg) (c_is_number : Has P w K mg base CX0 1 "is_number" ["thing"] sp_is_number) (c_is_within : Has P w K mg base CX0 2 "is_within" ["thing", "least", "most"] sp_is_within) : Has P w K mg base CX0 3 "sure_guest" ["web", "guest"] sp_sure_guest := by
  refine Has.mk0 F sc_sure_guest (fun _ _ _ _ _ _ us hl => match us, hl with | [_, _], _ => rfl) (fun vs H Q E h => by first | (obtain ⟨rfl, _⟩ := h; rfl) | (obtain ⟨_, rfl, _⟩ := h; rfl) | (obtain ⟨_, _, rfl, _⟩ := h; rfl) | (obtain ⟨_, _, _, rfl, _⟩ := h; rfl) | (obtain ⟨_, _, _, _, rfl, _⟩ := h; rfl) | (obtain ⟨_, _, _, _, _, rfl, _⟩ := h; rfl) | (obtain ⟨_, _, _, _, _, _, rfl, _⟩ := h; rfl) | (obtain ⟨_, _, _, _, _, _, _, rfl, _⟩ := h; rfl)) fun f cdv A outer s H vs Q E hr h => ?_
  refine ⟨_, (pss_cons (ps_if (pt_not (pt_val (pe_has c_is_number hr (by decide) rfl (pa_cons (pv 1) pa_nil)))) (pss_one ps_never) pss_nil)
      (pss_cons (ps_if (pt_not (pt_val (pe_has c_is_within hr (by decide) rfl (pa_cons (pv 1) (pa_cons pe_int (pa_cons (pe_op op_sub (pe_callB (k_len K) rfl Z.len PySem.boot_len (pa_cons (pe_ix (k_ixT K) (pv 0) pe_int (fun _ _ => rfl)) pa_nil)) pe_int) pa_nil)))))) (pss_one ps_never) pss_nil)
      (pss_one (ps_ret (pv 1))))), ?_⟩
  obtain ⟨v, m, gs, k, rfl, r, hk, q⟩ := h
  obtain ⟨a, b, ps, W⟩ := r.web
  obtain rfl := W.v
  refine ⟨_, rfl, (k : Int), rfl, true, rfl, iteF ?_⟩
  refine ⟨_, rfl, .ref a, rfl, a, _, 1, _, rfl, rfl, SqT.of W.a, atI_nat (j := 1) rfl, b, ps, rfl, .inr (SqT.of W.b), (ps.length : Int), 1, rfl, rfl, (k : Int), 0, (ps.length : Int) - 1, rfl, ⟨by omega, by have := W.len; omega⟩, true, rfl, iteF ?_⟩
  exact ⟨_, rfl, q⟩
theorem sc_is_row_in : FnScope ["web", "thing", "own"] ["web", "thing"] (defScope (top 16)) := ⟨rfl, rfl, rfl, by decide +kernel, rfl, by decide +kernel, by decide +kernel⟩
theorem nodup_ints {row : List Nat} (h : row.Nodup) : (row.map fun k : Nat => (k : Int)).Nodup := by
  refine List.pairwise_map.mpr (h.imp fun {a b} hab e => hab (by omega))
theorem h_is_row_in (F : At K mg "is_row_in" 16) (Z : Free mg) (c_is_within : Has P w K mg base CX0 2 "is_within" ["thing", "least", "most"] sp_is_within) : Has P w K mg base CX0 3 "is_row_in" ["web", "thing"] sp_is_row_in := by
  refine Has.mk0 F sc_is_row_in (fun _ _ _ _ _ _ us hl => match us, hl with | [_, _], _ => rfl) (fun vs H Q E h => by first | (obtain ⟨rfl, _⟩ := h; rfl) | (obtain ⟨_, rfl, _⟩ := h; rfl) | (obtain ⟨_, _, rfl, _⟩ := h; rfl) | (obtain ⟨_, _, _, rfl, _⟩ := h; rfl) | (obtain ⟨_, _, _, _, rfl, _⟩ := h; rfl) | (obtain ⟨_, _, _, _, _, rfl, _⟩ := h; rfl) | (obtain ⟨_, _, _, _, _, _, rfl, _⟩ := h; rfl) | (obtain ⟨_, _, _, _, _, _, _, rfl, _⟩ := h; rfl)) fun f cdv A outer s H vs Q E hr h => ?_
  refine ⟨_, (pss_cons (ps_if (PW.pt (pw_or (pt_not (pt_val (pe_callB (k_isi K) rfl Z.isinstance PyProof.Rows.boot_isinstance (pa_cons (pv 1) (pa_cons (pe_bltn (v := V.ty "tuple") rfl Z.tuple PyProof.Rows.boot_tuple rfl) pa_nil))))) (pw_or1 (pt_not (pt_val (pe_callB (k_all K) rfl Z.all PyProof.Rows.boot_all (pa_cons (pe_lcI (own := [("own", 2)]) (g := gName 2) (tt := tYes) rfl sc_is_row_in.nd (k_tup K (pv 1)) (blkOk_by (own := [("own", 2)]) (N := ["web", "thing", "own"]) (sc := defScope (top 16)) (by decide +kernel)) (fun _ _ _ _ _ => pg_name (i := 2) sc_is_row_in.nd rfl (Or.inl rfl)) (fun _ _ _ _ _ => pts_nil) (fun _ _ _ _ _ => (pe_has c_is_within hr (by decide) rfl (pa_cons (pv 2) (pa_cons pe_int (pa_cons (pe_op op_sub (pe_callB (k_len K) rfl Z.len PySem.boot_len (pa_cons (pe_ix (k_ixT K) (pv 0) pe_int (fun _ _ => rfl)) pa_nil)) pe_int) pa_nil)))))) pa_nil))))))) (pss_one (ps_ret pe_bl)) pss_nil)
      (pss_one (ps_ret (pe_cmpR op_eq (k_lenSet K rfl Z.len rfl Z.set (pv 1)) (pe_callB (k_len K) rfl Z.len PySem.boot_len (pa_cons (pv 1) pa_nil)) (nomark _))))), ?_⟩
  obtain ⟨v, m, gs, a2, row, rfl, r, wf, hr2, ho, q⟩ := h
  obtain ⟨a, b, ps, W⟩ := r.web
  obtain rfl := W.v
  refine ⟨_, rfl, ⟨.ref a2, .ty "tuple", .type "tuple", _, true, rfl, .ty "tuple", .base (.tup hr2), kit_ty (by decide +kernel), true, rfl, iteF ?_⟩⟩
  refine ⟨_, rfl, a2, rfl, ⟨_, SqT.of hr2⟩, ?_⟩
  have hn : row.length ≤ 1000 := by rw [ho.len]; exact wf.len
  refine lc_map (runs_tup (SqT.of hr2)) (fun _ y _ => y = .bl true) (fun _ _ _ _ _ e => e) (by rw [List.length_map]; omega) (fun _ => by rfl) ?_ ?_
  · intro i x H2 Q hi s k
    obtain ⟨n, hn, rfl⟩ : ∃ n, n ∈ row ∧ nV n = x := List.mem_map.mp (List.mem_of_getElem? hi)
    have hlt := ho.lt n hn
    have hl := W.len
    exact ⟨_, rfl, .ref a, rfl, a, _, 1, _, rfl, rfl, SqT.of (s _ _ W.a), atI_nat (j := 1) rfl, b, ps, rfl, .inr (SqT.of (s _ _ W.b)), (ps.length : Int), 1, rfl, rfl, (n : Int), 0, (ps.length : Int) - 1, rfl, ⟨by omega, by omega⟩, k _ _ (Same.refl _) rfl⟩
  · intro D ys H' hD s hy hl hR
    refine ⟨D, List.replicate ys.length true, rfl, SqL.of (by rw [hy, ← bl_all hR]), ?_⟩
    rw [all_true2]
    refine ⟨true, rfl, iteF ?_⟩
    have h2 := s _ _ hr2
    refine ⟨_, rfl, a2, row.map fun k : Nat => (k : Int), rfl, SqT.of (by rw [← row_cast]; exact h2), nodup_ints ho.nd, (by rw [List.length_map]; exact hn), _, rfl, a2, _, rfl, .inr (SqT.of h2), rfl, ?_⟩
    rw [decide_eq_true (congrArg V.int (by rw [List.length_map, List.length_map]))]
    exact q H' s
theorem sc_is_order_in : FnScope ["web", "thing"] ["web", "thing"] (defScope (top 17)) := ⟨rfl, rfl, rfl, by decide +kernel, rfl, by decide +kernel, by decide +kernel⟩

theorem h_is_order_in (F : At K mg "is_order_in" 17) (Z : Free mg) (c_is_row_in : Has P w K mg base CX0 3 "is_row_in" ["web", "thing"] sp_is_row_in) : Has P w K mg base CX0 4 "is_order_in" ["web", "thing"] sp_is_row_in := by
  refine Has.mk0 F sc_is_order_in (fun _ _ _ _ _ _ us hl => match us, hl with | [_, _], _ => rfl) (fun vs H Q E h => by first | (obtain ⟨rfl, _⟩ := h; rfl) | (obtain ⟨_, rfl, _⟩ := h; rfl) | (obtain ⟨_, _, rfl, _⟩ := h; rfl) | (obtain ⟨_, _, _, rfl, _⟩ := h; rfl) | (obtain ⟨_, _, _, _, rfl, _⟩ := h; rfl) | (obtain ⟨_, _, _, _, _, rfl, _⟩ := h; rfl) | (obtain ⟨_, _, _, _, _, _, rfl, _⟩ := h; rfl) | (obtain ⟨_, _, _, _, _, _, _, rfl, _⟩ := h; rfl)) fun f cdv A outer s H vs Q E hr h => ?_
  refine ⟨_, (pss_one (ps_ret (pe_and (pe_has c_is_row_in hr (by decide) rfl (pa_cons (pv 0) (pa_cons (pv 1) pa_nil))) (pe_one (pe_cmpR op_eq (pe_callB (k_len K) rfl Z.len PySem.boot_len (pa_cons (pv 1) pa_nil)) (pe_callB (k_len K) rfl Z.len PySem.boot_len (pa_cons (pe_ix (k_ixT K) (pv 0) pe_int (fun _ _ => rfl)) pa_nil)) (nomark _)))))), ?_⟩
  obtain ⟨v, m, gs, a2, row, rfl, r, wf, hr2, ho, q⟩ := h
  obtain ⟨a, b, ps, W⟩ := r.web
  obtain rfl := W.v
  refine ⟨_, rfl, _, rfl, _, m, gs, a2, row, rfl, r, wf, hr2, ho, fun H1 s1 => ?_⟩
  refine ⟨true, rfl, iteT ?_⟩
  refine ⟨_, rfl, a2, _, rfl, .inr (SqT.of (s1 _ _ hr2)), _, rfl, a, _, 1, _, rfl, rfl, SqT.of (s1 _ _ W.a), atI_nat (j := 1) rfl, b, ps, rfl, .inr (SqT.of (s1 _ _ W.b)), rfl, ?_⟩
  rw [decide_eq_true (congrArg V.int (by rw [List.length_map, ho.len, W.len]))]
  exact q H1 s1
theorem sc_sure_order : FnScope ["web", "order", "own"] ["web", "order"] (defScope (top 18)) := ⟨rfl, rfl, rfl, by decide +kernel, rfl, by decide +kernel, by decide +kernel⟩

theorem h_sure_order (F : At K mg "sure_order" 18) (Z : Free mg) (c_tupled : Has P w K mg base CX0 4 "tupled" ["value"] (sp_tupled 3)) (c_is_order_in : Has P w K mg base CX0 4 "is_order_in" ["web", "thing"] sp_is_row_in) : Has P w K mg base CX0 5 "sure_order" ["web", "order"] sp_sure_order := by
  refine Has.mk0 F sc_sure_order (fun _ _ _ _ _ _ us hl => match us, hl with | [_, _], _ => rfl) (fun vs H Q E h => by first | (obtain ⟨rfl, _⟩ := h; rfl) | (obtain ⟨_, rfl, _⟩ := h; rfl) | (obtain ⟨_, _, rfl, _⟩ := h; rfl) | (obtain ⟨_, _, _, rfl, _⟩ := h; rfl) | (obtain ⟨_, _, _, _, rfl, _⟩ := h; rfl) | (obtain ⟨_, _, _, _, _, rfl, _⟩ := h; rfl) | (obtain ⟨_, _, _, _, _, _, rfl, _⟩ := h; rfl) | (obtain ⟨_, _, _, _, _, _, _, rfl, _⟩ := h; rfl)) fun f cdv A outer s H vs Q E hr h => ?_
  refine ⟨_, (pss_cons (ps_set (i := 2) sc_sure_order.nd rfl (.inl rfl) (pe_has c_tupled hr (by decide) rfl (pa_cons (pv 1) pa_nil)))
      (pss_cons (ps_if (pt_not (pt_val (pe_has c_is_order_in hr (by decide) rfl (pa_cons (pv 0) (pa_cons (pv 2) pa_nil))))) (pss_one ps_never) pss_nil)
      (pss_one (ps_ret (pv 2))))), ?_⟩
  obtain ⟨v, u, m, gs, row, rfl, r, wf, ⟨⟨t, r2, d, c⟩, ho⟩, q⟩ := h
  refine ⟨u, rfl, u, t, rfl, r2, d, fun x H1 s1 r1 => ?_⟩
  rw [c] at r1
  obtain ⟨p, rfl, hp⟩ := r1.row
  refine ⟨_, rfl, _, rfl, v, m, gs, p, row, rfl, r.mono s1, wf, (of_nw hp).2, ho, fun H2 s2 => ?_⟩
  refine ⟨true, rfl, iteF ?_⟩
  exact ⟨_, rfl, q _ H2 (s1.trans s2) ⟨p, rfl, nw_fwd s2 _ _ hp⟩⟩
theorem sc_seat_in : FnScope ["web", "taken", "guest", "near", "far"] ["web", "taken", "guest"] (defScope (top 19)) := ⟨rfl, rfl, rfl, by decide +kernel, rfl, by decide +kernel, by decide +kernel⟩

theorem h_seat_in (F : At K mg "seat_in" 19) (Z : Free mg) : Has P w K mg base CX0 1 "seat_in" ["web", "taken", "guest"] sp_seat_in := by
  refine Has.mk0 F sc_seat_in (fun _ _ _ _ _ _ us hl => match us, hl with | [_, _, _], _ => rfl) (fun vs H Q E h => by first | (obtain ⟨rfl, _⟩ := h; rfl) | (obtain ⟨_, rfl, _⟩ := h; rfl) | (obtain ⟨_, _, rfl, _⟩ := h; rfl) | (obtain ⟨_, _, _, rfl, _⟩ := h; rfl) | (obtain ⟨_, _, _, _, rfl, _⟩ := h; rfl) | (obtain ⟨_, _, _, _, _, rfl, _⟩ := h; rfl) | (obtain ⟨_, _, _, _, _, _, rfl, _⟩ := h; rfl) | (obtain ⟨_, _, _, _, _, _, _, rfl, _⟩ := h; rfl)) fun f cdv A outer s H vs Q E hr h => ?_
  refine ⟨_, (pss_cons (ps_asg (pe_ix (k_ixT K) (pe_ix (k_ixT K) (pv 0) pe_int (fun _ _ => rfl)) (pv 2) (fun _ _ => rfl)) (pg_tup (by rfl) (pgs_cons (pg_name (i := 3) sc_seat_in.nd rfl (.inl rfl)) (pgs_cons (pg_name (i := 4) sc_seat_in.nd rfl (.inl rfl)) pgs_nil))))
      (pss_cons (ps_if (pt_cmp (pc_dnotin (hu_of hr) (pv 3) (pv 1))) (pss_one (ps_ret (pv 3))) pss_nil)
      (pss_one (ps_ret (pe_ifExp (pt_cmp (pc_din (hu_of hr) (pv 4) (pv 1))) pe_non (pv 4)))))), ?_⟩
  obtain ⟨v, m, gs, d, kvs, tk, k, rfl, r, hd, hk, hlt, q⟩ := h
  obtain ⟨a, b, ps, W⟩ := r.web
  obtain rfl := W.v
  obtain ⟨p, hp1, hp2⟩ := W.get hlt
  generalize gs.getD k (0, 0) = g at hp2 q
  refine ⟨.ref a, rfl, a, _, 1, _, rfl, rfl, SqT.of W.a, atI_nat (j := 1) rfl, nV k, rfl, b, ps, (k : Int), _, rfl, rfl, SqT.of W.b, atI_nat hp1, p, _, rfl, SqT.of hp2, rfl, _, _, rfl, _, _, rfl, rfl, ?_⟩
  refine ⟨_, rfl, _, rfl, d, _, rfl, DGet.k (k := Sum.inl g.1) hd, _, rfl, ?_⟩
  rw [hk g.1]
  unfold seat at q
  by_cases h1 : g.1 ∈ tk
  · rw [if_pos h1] at q
    rw [decide_eq_true h1]
    refine iteF ?_
    refine ⟨_, rfl, _, rfl, d, _, rfl, DGet.k (k := Sum.inl g.2) hd, _, rfl, ?_⟩
    rw [hk g.2]
    by_cases h2 : g.2 ∈ tk
    · rw [if_pos h2] at q
      rw [decide_eq_true h2]
      exact iteT q
    · rw [if_neg h2] at q
      rw [decide_eq_false h2]
      exact iteF ⟨_, rfl, q⟩
  · rw [if_neg h1] at q
    rw [decide_eq_false h1]
    exact iteT ⟨_, rfl, q⟩
theorem sc_seats_in : FnScope ["web", "row", "taken", "found", "guest", "place"] ["web", "row"] (defScope (top 20)) := ⟨rfl, rfl, rfl, by decide +kernel, rfl, by decide +kernel, by decide +kernel⟩

theorem h_seats_in (F : At K mg "seats_in" 20) (Z : Free mg) (c_seat_in : Has P w K mg base CX0 1 "seat_in" ["web", "taken", "guest"] sp_seat_in) : Has P w K mg base CX0 2 "seats_in" ["web", "row"] sp_seats_in := by
  refine Has.mk0 F sc_seats_in (fun _ _ _ _ _ _ us hl => match us, hl with | [_, _], _ => rfl) (fun vs H Q E h => by first | (obtain ⟨rfl, _⟩ := h; rfl) | (obtain ⟨_, rfl, _⟩ := h; rfl) | (obtain ⟨_, _, rfl, _⟩ := h; rfl) | (obtain ⟨_, _, _, rfl, _⟩ := h; rfl) | (obtain ⟨_, _, _, _, rfl, _⟩ := h; rfl) | (obtain ⟨_, _, _, _, _, rfl, _⟩ := h; rfl) | (obtain ⟨_, _, _, _, _, _, rfl, _⟩ := h; rfl) | (obtain ⟨_, _, _, _, _, _, _, rfl, _⟩ := h; rfl)) fun f cdv A outer s H vs Q E hr h => ?_
  refine ⟨_, (pss_cons (ps_par (i := 2) (j := 3) (by rfl) sc_seats_in.nd rfl rfl (by decide) rfl rfl (pa_cons pe_dnewK (pa_cons pe_dnewK pa_nil)) (by rfl))
      (pss_cons (ps_for PassesOwn.never rfl (k_tup K (pv 1)) (pg_name (i := 4) sc_seats_in.nd rfl (.inl rfl)) (pss_cons (ps_set (i := 5) sc_seats_in.nd rfl (.inl rfl) (pe_has c_seat_in hr (by decide) rfl (pa_cons (pv 0) (pa_cons (pv 2) (pa_cons (pv 4) pa_nil)))))
      (pss_cons (ps_dput (hu_of hr) (pv 3) (pv 4) (pv 5) rfl)
      (pss_one (ps_if (pt_cmpR op_notN (pv 5) pe_non (nomark _)) (pss_one (ps_dput (hu_of hr) (pv 2) (pv 5) pe_bl rfl)) pss_nil)))))
      (pss_one (ps_ret (pv 3))))), ?_⟩
  obtain ⟨v, m, gs, ra, row, rfl, r, hra, hlt, hn, q⟩ := h
  intro tk htk fd hfd
  have htf : tk ≠ fd := fun e => by rw [← e, upd_same] at hfd; cases hfd
  have hfd0 : H fd = none := by rw [upd_ne htf.symm] at hfd; exact hfd
  have s0 : Same H (upd (upd H tk (.dK [])) fd (.dK [])) := (same_new htk).trans (same_new hfd)
  refine ⟨_, _, rfl, _, rfl, ra, rfl, ⟨_, SqT.of (s0 _ _ hra)⟩, ?_⟩
  refine for_tup (K := K) (a := ra) (xs := row.map nV) (fun i σ H' => ∃ x4 x5, σ = [some v, some (.ref ra), some (.ref tk), some (.ref fd), x4, x5] ∧ Same H H' ∧ ∃ kv1 kv2 : List (Key × V), H' tk = some (.dK kv1) ∧ H' fd = some (.dK kv2) ∧
    (∀ z : Int, (valV kv1 (Sum.inl z)).isSome = decide (z ∈ (runS gs (row.take i)).1)) ∧ (∀ k : Nat, (valV kv2 (Sum.inl (k : Int))).getD .non = oV ((runS gs (row.take i)).2 k)) ∧ kv1.length ≤ i ∧ kv2.length ≤ i) ?_ ?_ ?_ ?_
  · exact ⟨none, none, rfl, s0, [], [], by rw [upd_ne htf, upd_same], upd_same, fun z => by rfl, fun k => by rfl, Nat.le_refl _, Nat.le_refl _⟩
  · rintro i σ H' _ ⟨x4, x5, _, s, _⟩
    exact SqT.of (s _ _ hra)
  · rintro i x σ H' hi ⟨x4, x5, rfl, s, kv1, kv2, h1, h2, p1, p2, l1, l2⟩
    obtain ⟨k, hk, rfl⟩ := nat_item hi
    have hk2 := hlt k (List.mem_of_getElem? hk)
    have hir := (List.getElem?_eq_some_iff.mp hk).1
    have er := run_more (gs := gs) hk
    refine ⟨_, rfl, _, rfl, _, rfl, v, m, gs, tk, kv1, (runS gs (row.take i)).1, k, rfl, r.mono s, h1, p1, hk2, ?_⟩
    generalize hp : seat (gs.getD k (0, 0)) (runS gs (row.take i)).1 = p
    have e1 : (runS gs (row.take (i + 1))).1 = (runS gs (row.take i)).1 ++ p.toList := by rw [er, ← hp]; rfl
    have e2 : ∀ j, (runS gs (row.take (i + 1))).2 j = if j = k then p else (runS gs (row.take i)).2 j := fun j => by rw [er, ← hp]; rfl
    refine ⟨_, rfl, _, rfl, _, rfl, fd, _, rfl, DPut.k (k := Sum.inl (k : Int)) h2 (sz_lt (by omega)), ?_⟩
    have s2 : Same H (upd H' fd (.dK (putK kv2 (Sum.inl (k : Int)) (oV p)))) := same_mut s hfd0
    have p2' : ∀ j : Nat, (valV (putK kv2 (Sum.inl (k : Int)) (oV p)) (Sum.inl (j : Int))).getD .non = oV ((runS gs (row.take (i + 1))).2 j) := fun j => by
      rw [valV_put, e2]
      by_cases hj : j = k
      · rw [if_pos (by rw [hj]), if_pos hj]
        rfl
      · rw [if_neg (fun e => hj (by have := Sum.inl.inj e; omega)), if_neg hj]
        exact p2 j
    have l2' : (putK kv2 (Sum.inl (k : Int)) (oV p)).length ≤ i + 1 := Nat.le_trans (length_putK _ _ _) (by omega)
    refine ⟨_, rfl, rfl, _, rfl, ?_⟩
    rw [oV_non]
    cases p with
    | none =>
      refine iteF ?_
      refine ⟨_, _, rfl, s2, kv1, _, by rw [upd_ne htf]; exact h1, upd_same, fun z => ?_, p2', by omega, l2'⟩
      rw [e1, show (none : Option Int).toList = [] from rfl, List.append_nil]
      exact p1 z
    | some z0 =>
      refine iteT ?_
      refine ⟨_, rfl, _, rfl, tk, _, rfl, DPut.k (k := Sum.inl z0) (by rw [upd_ne htf]; exact h1) (sz_lt (by omega)), ?_⟩
      refine ⟨_, _, rfl, same_mut s2 htk, _, _, upd_same, by rw [upd_ne htf.symm]; exact upd_same, fun z => ?_, p2', Nat.le_trans (length_putK _ _ _) (by omega), l2'⟩
      rw [valV_put, e1]
      by_cases hz : z = z0
      · subst hz
        rw [if_pos rfl]
        simp
      · rw [if_neg (fun e => hz (Sum.inl.inj e)), p1 z]
        simp [hz]
  · rintro σ H' ⟨x4, x5, rfl, s, kv1, kv2, h1, h2, p1, p2, l1, l2⟩
    rw [List.length_map, List.take_length] at p2
    exact ⟨_, rfl, q _ _ s ⟨fd, kv2, rfl, nw_of hfd0 h2, p2⟩⟩
theorem sc_seated_in : FnScope ["web", "row", "found", "guest"] ["web", "row"] (defScope (top 21)) := ⟨rfl, rfl, rfl, by decide +kernel, rfl, by decide +kernel, by decide +kernel⟩

theorem h_seated_in (F : At K mg "seated_in" 21) (Z : Free mg) (c_seats_in : Has P w K mg base CX0 2 "seats_in" ["web", "row"] sp_seats_in) : Has P w K mg base CX0 3 "seated_in" ["web", "row"] sp_run := by
  refine Has.mk0 F sc_seated_in (fun _ _ _ _ _ _ us hl => match us, hl with | [_, _], _ => rfl) (fun vs H Q E h => by first | (obtain ⟨rfl, _⟩ := h; rfl) | (obtain ⟨_, rfl, _⟩ := h; rfl) | (obtain ⟨_, _, rfl, _⟩ := h; rfl) | (obtain ⟨_, _, _, rfl, _⟩ := h; rfl) | (obtain ⟨_, _, _, _, rfl, _⟩ := h; rfl) | (obtain ⟨_, _, _, _, _, rfl, _⟩ := h; rfl) | (obtain ⟨_, _, _, _, _, _, rfl, _⟩ := h; rfl) | (obtain ⟨_, _, _, _, _, _, _, rfl, _⟩ := h; rfl)) fun f cdv A outer s H vs Q E hr h => ?_
  refine ⟨_, (pss_cons (ps_set (i := 2) sc_seated_in.nd rfl (.inr rfl) (pe_has c_seats_in hr (by decide) rfl (pa_cons (pv 0) (pa_cons (pv 1) pa_nil))))
      (pss_one (ps_ret (pe_callTy (k_tupOf K) rfl Z.tuple PyProof.Rows.boot_tuple (pa_cons (pe_lcI (own := [("guest", 3)]) (g := gName 3) (tt := tYes) rfl sc_seated_in.nd (pi_range1 rfl Z.range (pa_cons (pe_callB (k_len K) rfl Z.len PySem.boot_len (pa_cons (pe_ix (k_ixT K) (pv 0) pe_int (fun _ _ => rfl)) pa_nil)) pa_nil)) (blkOk_by (own := [("guest", 3)]) (N := ["web", "row", "found", "guest"]) (sc := defScope (top 21)) (by decide +kernel)) (fun _ _ _ _ _ => pg_name (i := 3) sc_seated_in.nd rfl (Or.inl rfl)) (fun _ _ _ _ _ => pts_nil) (fun _ _ _ _ _ => (pe_dget1 (hu_of hr) (pv 2) (pv 3) ⟨rfl, rfl, rfl, rfl⟩))) pa_nil))))), ?_⟩
  obtain ⟨v, m, gs, ra, row, rfl, r, hg, hra, hlt, hn, q⟩ := h
  obtain ⟨a, b, ps, W⟩ := r.web
  obtain rfl := W.v
  refine ⟨_, rfl, _, rfl, _, m, gs, ra, row, rfl, r, hra, hlt, hn, fun u H1 s1 hu => ?_⟩
  obtain ⟨d, kvs, rfl, hd, hv⟩ := hu
  have hd1 := (of_nw hd).2
  refine ⟨_, rfl, a, _, 1, _, rfl, rfl, SqT.of (s1 _ _ W.a), atI_nat (j := 1) rfl, b, ps, rfl, .inr (SqT.of (s1 _ _ W.b)), (ps.length : Int), rfl, by omega, by have := W.len; omega, ?_⟩
  refine lc_map (runs_range ps.length) (fun i y _ => y = oV (own gs row i)) (fun _ _ _ _ _ e => e) (by have := W.len; simp; omega) (fun _ => by rfl) ?_ ?_
  · intro i x H2 Q hi s k
    rw [List.getElem?_map] at hi
    obtain ⟨j, e1, rfl⟩ := Option.map_eq_some_iff.mp hi
    have ej : j = i := by
      obtain ⟨hl, e⟩ := List.getElem?_eq_some_iff.mp e1
      rw [List.getElem_range] at e
      exact e.symm
    subst ej
    refine ⟨_, rfl, d, rfl, .inl ⟨kvs, .inl (s _ _ hd1)⟩, _, rfl, _, DGet.k (k := Sum.inl (j : Int)) (s _ _ hd1), ?_⟩
    exact k _ _ (Same.refl _) (hv j)
  · intro D ys H' hD s hy hl hR
    have ey : ys = tkV gs row := by
      rw [List.length_map, List.length_range, W.len] at hl
      exact map_of hl hR
    refine ⟨D, ys, rfl, .inl ⟨SqL.of hy, fun p hp => ?_⟩⟩
    refine q _ _ ((s1.trans s).trans (same_new hp)) ⟨p, rfl, nw_of ((s1.trans s).free hp) ?_⟩
    rw [upd_same, ey]
theorem sc_sure_three : FnScope ["web", "order", "guest", "own", "row"] ["web", "order", "guest"] (defScope (top 23)) := ⟨rfl, rfl, rfl, by decide +kernel, rfl, by decide +kernel, by decide +kernel⟩

theorem h_sure_three (F : At K mg "sure_three" 23) (Z : Free mg) (c_sure_web : Has P w K mg base CX0 5 "sure_web" ["web"] sp_sure_web) (c_sure_order : Has P w K mg base CX0 5 "sure_order" ["web", "order"] sp_sure_order) (c_sure_guest : Has P w K mg base CX0 3 "sure_guest" ["web", "guest"] sp_sure_guest) : Has P w K mg base CX0 6 "sure_three" ["web", "order", "guest"] sp_sure_three := by
  refine Has.mk0 F sc_sure_three (fun _ _ _ _ _ _ us hl => match us, hl with | [_, _, _], _ => rfl) (fun vs H Q E h => by first | (obtain ⟨rfl, _⟩ := h; rfl) | (obtain ⟨_, rfl, _⟩ := h; rfl) | (obtain ⟨_, _, rfl, _⟩ := h; rfl) | (obtain ⟨_, _, _, rfl, _⟩ := h; rfl) | (obtain ⟨_, _, _, _, rfl, _⟩ := h; rfl) | (obtain ⟨_, _, _, _, _, rfl, _⟩ := h; rfl) | (obtain ⟨_, _, _, _, _, _, rfl, _⟩ := h; rfl) | (obtain ⟨_, _, _, _, _, _, _, rfl, _⟩ := h; rfl)) fun f cdv A outer s H vs Q E hr h => ?_
  refine ⟨_, (pss_cons (ps_set (i := 3) sc_sure_three.nd rfl (.inl rfl) (pe_has c_sure_web hr (by decide) rfl (pa_cons (pv 0) pa_nil)))
      (pss_cons (ps_set (i := 4) sc_sure_three.nd rfl (.inl rfl) (pe_has c_sure_order hr (by decide) rfl (pa_cons (pv 3) (pa_cons (pv 1) pa_nil))))
      (pss_one (ps_ret (pe_tup (pa_cons (pv 3) (pa_cons (pv 4) (pa_cons (pe_has c_sure_guest hr (by decide) rfl (pa_cons (pv 3) (pa_cons (pv 2) pa_nil))) pa_nil)))))))), ?_⟩
  obtain ⟨v, u, m, gs, row, k, rfl, wa, oa, hk, q⟩ := h
  refine ⟨v, rfl, v, m, gs, rfl, wa, fun w H1 s1 r1 => ?_⟩
  refine ⟨w, rfl, u, rfl, w, u, m, gs, row, rfl, r1.mono nw_same, wa.wf, oa.mono s1, fun x H2 s2 hx => ?_⟩
  obtain ⟨p, rfl, hp⟩ := hx
  refine ⟨w, rfl, _, rfl, w, rfl, nV k, rfl, w, m, gs, k, rfl, (r1.mono nw_same).mono s2, hk, by show 3 ≤ sizeLine; decide, fun t ht => ?_⟩
  have s3 : Same H2 (upd H2 t (.tup [w, .ref p, nV k])) := same_new ht
  exact q _ _ ((s1.trans s2).trans s3) ⟨t, w, p, rfl, nw_of ((s1.trans s2).free ht) upd_same, r1.mono (nw_fwd (s2.trans s3)), nw_fwd s3 _ _ (nw_back s1 _ _ hp)⟩
theorem sc_without_one : FnScope ["order", "guest", "own"] ["order", "guest"] (defScope (top 24)) := ⟨rfl, rfl, rfl, by decide +kernel, rfl, by decide +kernel, by decide +kernel⟩

theorem h_without_one (F : At K mg "without_one" 24) (Z : Free mg) : Has P w K mg base CX0 1 "without_one" ["order", "guest"] sp_off := by
  refine Has.mk0 F sc_without_one (fun _ _ _ _ _ _ us hl => match us, hl with | [_, _], _ => rfl) (fun vs H Q E h => by first | (obtain ⟨rfl, _⟩ := h; rfl) | (obtain ⟨_, rfl, _⟩ := h; rfl) | (obtain ⟨_, _, rfl, _⟩ := h; rfl) | (obtain ⟨_, _, _, rfl, _⟩ := h; rfl) | (obtain ⟨_, _, _, _, rfl, _⟩ := h; rfl) | (obtain ⟨_, _, _, _, _, rfl, _⟩ := h; rfl) | (obtain ⟨_, _, _, _, _, _, rfl, _⟩ := h; rfl) | (obtain ⟨_, _, _, _, _, _, _, rfl, _⟩ := h; rfl)) fun f cdv A outer s H vs Q E hr h => ?_
  refine ⟨_, (pss_one (ps_ret (pe_callTy (k_tupOf K) rfl Z.tuple PyProof.Rows.boot_tuple (pa_cons (pe_lcI (own := [("own", 2)]) (g := gName 2)  rfl sc_without_one.nd (k_tup K (pv 0)) (blkOk_by (own := [("own", 2)]) (N := ["order", "guest", "own"]) (sc := defScope (top 24)) (by decide +kernel)) (fun _ _ _ _ _ => pg_name (i := 2) sc_without_one.nd rfl (Or.inl rfl)) (fun _ _ _ _ _ => (pts_one (pt_cmpR op_ne (pv 2) (pv 1) (nomark _)))) (fun _ _ _ _ _ => (pv 2))) pa_nil)))), ?_⟩
  obtain ⟨r, row, k, rfl, hr2, hn, q⟩ := h
  refine ⟨_, rfl, r, rfl, ⟨_, SqT.of hr2⟩, ?_⟩
  refine lc_flt (l := row) (X := nV) (runs_tup (SqT.of hr2)) (fun j => decide (j ≠ k)) (by omega) (fun _ => by rfl) (fun _ => by rfl) ?_ ?_
  · intro a H2 Q ha s kq
    refine ⟨_, rfl, _, rfl, rfl, _, rfl, ?_⟩
    have e : (!decide (nV a = nV k)) = decide (a ≠ k) := by rw [nV_eq, decide_not]
    have z := kq H2 (Same.refl _)
    rw [← e] at z
    exact z
  · intro D H' hD s hy
    refine ⟨D, _, rfl, .inl ⟨SqL.of hy, fun p hp => ?_⟩⟩
    exact q _ _ (s.trans (same_new hp)) ⟨p, rfl, nw_of (s.free hp) upd_same⟩
theorem sc_helped_in : FnScope ["web", "order", "near", "guest", "rest", "far", "found", "own"] ["web", "order", "near", "guest"] (defScope (top 25)) := ⟨rfl, rfl, rfl, by decide +kernel, rfl, by decide +kernel, by decide +kernel⟩

theorem h_helped_in (F : At K mg "helped_in" 25) (Z : Free mg) (c_without_one : Has P w K mg base CX0 1 "without_one" ["order", "guest"] sp_off) (c_seated_in : Has P w K mg base CX0 3 "seated_in" ["web", "row"] sp_run) : Has P w K mg base CX0 4 "helped_in" ["web", "order", "near", "guest"] sp_helped_in := by
  refine Has.mk0 F sc_helped_in (fun _ _ _ _ _ _ us hl => match us, hl with | [_, _, _, _], _ => rfl) (fun vs H Q E h => by first | (obtain ⟨rfl, _⟩ := h; rfl) | (obtain ⟨_, rfl, _⟩ := h; rfl) | (obtain ⟨_, _, rfl, _⟩ := h; rfl) | (obtain ⟨_, _, _, rfl, _⟩ := h; rfl) | (obtain ⟨_, _, _, _, rfl, _⟩ := h; rfl) | (obtain ⟨_, _, _, _, _, rfl, _⟩ := h; rfl) | (obtain ⟨_, _, _, _, _, _, rfl, _⟩ := h; rfl) | (obtain ⟨_, _, _, _, _, _, _, rfl, _⟩ := h; rfl)) fun f cdv A outer s H vs Q E hr h => ?_
  refine ⟨_, (pss_cons (ps_set (i := 4) sc_helped_in.nd rfl (.inl rfl) (pe_has c_without_one hr (by decide) rfl (pa_cons (pv 1) (pa_cons (pv 3) pa_nil))))
      (pss_cons (ps_set (i := 5) sc_helped_in.nd rfl (.inr rfl) (pe_has c_seated_in hr (by decide) rfl (pa_cons (pv 0) (pa_cons (pv 4) pa_nil))))
      (pss_cons (ps_setLcI (i := 6) (own := [("own", 7)]) (g := gName 7)  rfl sc_helped_in.nd rfl rfl (sw_true rfl rfl rfl (by decide +kernel)) (k_tup K (pv 4)) (blkOk_by (own := [("own", 7)]) (N := ["web", "order", "near", "guest", "rest", "far", "found", "own"]) (sc := defScope (top 25)) (by decide +kernel)) (fun _ _ _ _ _ => pg_name (i := 7) sc_helped_in.nd rfl (Or.inl rfl)) (fun _ _ _ _ _ => (pts_one (PW.pt (pw_and (pt_cmpR op_isN (pe_ix (k_ixT K) (pv 2) (pv 7) (fun _ _ => rfl)) pe_non (nomark _)) (pw_and1 (pt_cmpR op_notN (pe_ix (k_ixT K) (pv 5) (pv 7) (fun _ _ => rfl)) pe_non (nomark _))))))) (fun _ _ _ _ _ => (pv 7)))
      (pss_one (ps_ret (pe_ifExp (pt_cmpR op_gt (pe_callB (k_len K) rfl Z.len PySem.boot_len (pa_cons (pv 6) pa_nil)) pe_int (nomark _)) (pe_ix (k_ixL K) (pv 6) pe_int (fun _ _ => rfl)) pe_non)))))), ?_⟩
  obtain ⟨v, m, gs, r, row, a, k, rfl, hw, hg, hr2, ho, ha, q⟩ := h
  have hn : row.length ≤ 1000 := by rw [ho.len]; exact hg
  refine ⟨_, rfl, _, rfl, r, row, k, rfl, hr2, hn, fun x H1 s1 hx => ?_⟩
  obtain ⟨p, rfl, hp⟩ := hx
  have hp1 := (of_nw hp).2
  refine ⟨v, rfl, _, rfl, v, m, gs, p, off row k, rfl, hw.mono s1, hg, hp1, (fun j hj => ho.lt j (off_mem hj)), Nat.le_trans (off_len row k) hn, fun x H2 s2 hx => ?_⟩
  obtain ⟨p2, rfl, hp2⟩ := hx
  have hp3 := (of_nw hp2).2
  refine ⟨_, rfl, p, rfl, ⟨_, SqT.of (s2 _ _ hp1)⟩, ?_⟩
  refine lc_flt (l := off row k) (X := nV) (runs_tup (SqT.of (s2 _ _ hp1))) (fun j => (own gs row j).isNone && (own gs (off row k) j).isSome) (Nat.le_trans (off_len row k) (by omega)) (fun _ => by rfl) (fun _ => by rfl) ?_ ?_
  · intro j H3 Q hj s3 kq
    have hlt := ho.lt j (off_mem hj)
    refine ⟨_, rfl, _, rfl, a, _, (j : Int), _, rfl, rfl, SqT.of (((s1.trans s2).trans s3) _ _ ha), atI_nat (tk_get hlt), rfl, _, rfl, ?_⟩
    rw [oV_non]
    cases e1 : (own gs row j).isNone with
    | false =>
      refine iteF ?_
      have z := kq H3 (Same.refl _)
      rw [e1, Bool.false_and] at z
      exact z
    | true =>
      refine iteT ?_
      refine ⟨_, rfl, _, rfl, p2, _, (j : Int), _, rfl, rfl, SqT.of (s3 _ _ hp3), atI_nat (tk_get hlt), rfl, _, rfl, ?_⟩
      have z := kq H3 (Same.refl _)
      have e2 : (!decide (oV (own gs (off row k) j) = V.non)) = (own gs (off row k) j).isSome := by
        rw [oV_non]
        cases own gs (off row k) j <;> rfl
      rw [e1, Bool.true_and, ← e2] at z
      exact z
  · intro D H' hD s hy
    have sA : Same H H' := (s1.trans s2).trans s
    refine ⟨_, rfl, D, _, rfl, .inl (SqL.of hy), _, 0, rfl, rfl, _, rfl, ?_⟩
    have q2 := q H' sA
    have e0 : hd1 gs row k = (hl gs row k).head? := rfl
    rw [e0] at q2
    change H' D = some (.lst ((hl gs row k).map nV)) at hy
    show if decide ((0 : Int) < (((hl gs row k).map nV).length : Int)) = true then _ else _
    cases e : hl gs row k with
    | nil =>
      rw [e] at q2
      exact iteF q2
    | cons j l =>
      rw [e] at q2 hy
      refine ite2 (fun _ => ?_) (fun c => ?_)
      · exact ⟨_, rfl, D, _, 0, _, rfl, rfl, SqL.of hy, atI_nat (j := 0) rfl, q2⟩
      · refine absurd (decide_eq_true ?_) c
        rw [List.length_map, List.length_cons]
        omega
theorem sc_helped : FnScope ["web", "order", "guest", "own", "row", "one"] ["web", "order", "guest"] (defScope (top 26)) := ⟨rfl, rfl, rfl, by decide +kernel, rfl, by decide +kernel, by decide +kernel⟩

theorem h_helped (F : At K mg "helped" 26) (Z : Free mg) (c_sure_three : Has P w K mg base CX0 6 "sure_three" ["web", "order", "guest"] sp_sure_three) (c_helped_in : Has P w K mg base CX0 4 "helped_in" ["web", "order", "near", "guest"] sp_helped_in) (c_seated_in : Has P w K mg base CX0 3 "seated_in" ["web", "row"] sp_run) : Has P w K mg base CX0 7 "helped" ["web", "order", "guest"] sp_helped := by
  refine Has.mk0 F sc_helped (fun _ _ _ _ _ _ us hl => match us, hl with | [_, _, _], _ => rfl) (fun vs H Q E h => by first | (obtain ⟨rfl, _⟩ := h; rfl) | (obtain ⟨_, rfl, _⟩ := h; rfl) | (obtain ⟨_, _, rfl, _⟩ := h; rfl) | (obtain ⟨_, _, _, rfl, _⟩ := h; rfl) | (obtain ⟨_, _, _, _, rfl, _⟩ := h; rfl) | (obtain ⟨_, _, _, _, _, rfl, _⟩ := h; rfl) | (obtain ⟨_, _, _, _, _, _, rfl, _⟩ := h; rfl) | (obtain ⟨_, _, _, _, _, _, _, rfl, _⟩ := h; rfl)) fun f cdv A outer s H vs Q E hr h => ?_
  refine ⟨_, (pss_cons (ps_asg (pe_has c_sure_three hr (by decide) rfl (pa_cons (pv 0) (pa_cons (pv 1) (pa_cons (pv 2) pa_nil)))) (pg_tup (by rfl) (pgs_cons (pg_name (i := 3) sc_helped.nd rfl (.inl rfl)) (pgs_cons (pg_name (i := 4) sc_helped.nd rfl (.inl rfl)) (pgs_cons (pg_name (i := 5) sc_helped.nd rfl (.inl rfl)) pgs_nil)))))
      (pss_one (ps_ret (pe_has c_helped_in hr (by decide) rfl (pa_cons (pv 3) (pa_cons (pv 4) (pa_cons (pe_has c_seated_in hr (by decide) rfl (pa_cons (pv 3) (pa_cons (pv 4) pa_nil))) (pa_cons (pv 5) pa_nil)))))))), ?_⟩
  obtain ⟨v, u, m, gs, row, k, rfl, wa, oa, hk, q⟩ := h
  refine ⟨v, rfl, u, rfl, _, rfl, v, u, m, gs, row, k, rfl, wa, oa, hk, fun x H1 s1 hx => ?_⟩
  obtain ⟨a, w, r, rfl, ha, hw, hr2⟩ := hx
  have ho := oa.ord
  have hn : row.length ≤ 1000 := by rw [ho.len]; exact wa.wf.len
  have hw1 := hw.mono nw_same
  have hr1 := (of_nw hr2).2
  refine ⟨a, _, rfl, SqT.of (of_nw ha).2, rfl, _, _, rfl, _, _, rfl, _, _, rfl, rfl, ?_⟩
  refine ⟨_, rfl, _, rfl, _, rfl, _, rfl, w, m, gs, r, row, rfl, hw1, wa.wf.len, hr1, ho.lt, hn, fun x H2 s2 hx => ?_⟩
  obtain ⟨p, rfl, hp⟩ := hx
  exact ⟨_, rfl, w, m, gs, r, row, p, k, rfl, hw1.mono s2, wa.wf.len, s2 _ _ hr1, ho, (of_nw hp).2, fun H3 s3 => q H3 ((s1.trans s2).trans s3)⟩
theorem sc_helpers : FnScope ["web", "order", "guest", "own", "row", "one", "near", "other"] ["web", "order", "guest"] (defScope (top 27)) := ⟨rfl, rfl, rfl, by decide +kernel, rfl, by decide +kernel, by decide +kernel⟩

theorem h_helpers (F : At K mg "helpers" 27) (Z : Free mg) (c_sure_three : Has P w K mg base CX0 6 "sure_three" ["web", "order", "guest"] sp_sure_three) (c_seated_in : Has P w K mg base CX0 3 "seated_in" ["web", "row"] sp_run) (c_helped_in : Has P w K mg base CX0 4 "helped_in" ["web", "order", "near", "guest"] sp_helped_in) (T : CanNotIs K mg C) : Has P w K mg base (L2.CX P w) 7 "helpers" ["web", "order", "guest"] (sp_helpers C) := by
  refine Has.mkX F sc_helpers (fun _ _ _ _ _ _ us hl => match us, hl with | [_, _, _], _ => rfl) (fun vs H Q E h => by first | (obtain ⟨rfl, _⟩ := h; rfl) | (obtain ⟨_, rfl, _⟩ := h; rfl) | (obtain ⟨_, _, rfl, _⟩ := h; rfl) | (obtain ⟨_, _, _, rfl, _⟩ := h; rfl) | (obtain ⟨_, _, _, _, rfl, _⟩ := h; rfl) | (obtain ⟨_, _, _, _, _, rfl, _⟩ := h; rfl) | (obtain ⟨_, _, _, _, _, _, rfl, _⟩ := h; rfl) | (obtain ⟨_, _, _, _, _, _, _, rfl, _⟩ := h; rfl)) fun f cdv A outer s H vs Q E hr h => ?_
  refine ⟨_, (pss_cons (ps_asg (pe_has c_sure_three hr (by decide) rfl (pa_cons (pv 0) (pa_cons (pv 1) (pa_cons (pv 2) pa_nil)))) (pg_tup (by rfl) (pgs_cons (pg_name (i := 3) sc_helpers.nd rfl (.inr rfl)) (pgs_cons (pg_name (i := 4) sc_helpers.nd rfl (.inr rfl)) (pgs_cons (pg_name (i := 5) sc_helpers.nd rfl (.inr rfl)) pgs_nil)))))
      (pss_cons (ps_set (i := 6) sc_helpers.nd rfl (.inr rfl) (pe_has c_seated_in hr (by decide) rfl (pa_cons (pv 3) (pa_cons (pv 4) pa_nil))))
      (pss_cons (ps_if (pt_cmpR op_notN (pe_ix (k_ixT K) (pv 6) (pv 5) (fun _ _ => rfl)) pe_non (nomark _)) (pss_one (ps_raise rfl (takes_of rfl rfl rfl rfl) (pmk_own0 PySem.F.excBase_ValueError T.x T.g T.k (raises_own T.b T.t) rfl))) pss_nil)
      (pss_one (ps_ret (pe_callTy (k_tupOf K) rfl Z.tuple PyProof.Rows.boot_tuple (pa_cons (pe_callB (k_sortI K) rfl Z.sorted PyProof.Rows.boot_sorted (pa_cons (pe_lcI (own := [("other", 7)]) (g := gName 7)  rfl sc_helpers.nd (k_tup K (pv 4)) (blkOk_by (own := [("other", 7)]) (N := ["web", "order", "guest", "own", "row", "one", "near", "other"]) (sc := defScope (top 27)) (by decide +kernel)) (fun _ _ _ _ _ => pg_name (i := 7) sc_helpers.nd rfl (Or.inl rfl)) (fun _ _ _ _ _ => (pts_one (PW.pt (pw_and (pt_cmpR op_ne (pv 7) (pv 5) (nomark _)) (pw_and1 (pt_cmpR op_eq (pe_has c_helped_in hr (by decide) rfl (pa_cons (pv 3) (pa_cons (pv 4) (pa_cons (pv 6) (pa_cons (pv 7) pa_nil))))) (pv 5) (nomark _))))))) (fun _ _ _ _ _ => (pv 7))) pa_nil)) pa_nil))))))), ?_⟩
  obtain ⟨v, u, m, gs, row, k, rfl, wa, oa, hk, q, qE⟩ := h
  refine ⟨v, rfl, u, rfl, _, rfl, v, u, m, gs, row, k, rfl, wa, oa, hk, fun x H1 s1 hx => ?_⟩
  obtain ⟨a, w, r, rfl, ha, hw, hr0⟩ := hx
  have ho := oa.ord
  have hn : row.length ≤ 1000 := by rw [ho.len]; exact wa.wf.len
  have hw1 := hw.mono nw_same
  have hr1 := (of_nw hr0).2
  refine ⟨a, _, rfl, SqT.of (of_nw ha).2, rfl, _, _, rfl, _, _, rfl, _, _, rfl, rfl, ?_⟩
  refine ⟨_, rfl, _, rfl, w, m, gs, r, row, rfl, hw1, wa.wf.len, hr1, ho.lt, hn, fun x H2 s2 hx => ?_⟩
  obtain ⟨p, rfl, hp0⟩ := hx
  have hp := (of_nw hp0).2
  have hw2 := hw1.mono s2
  have hr2 := s2 _ _ hr1
  have s02 := s1.trans s2
  refine ⟨_, rfl, _, rfl, p, _, (k : Int), _, rfl, rfl, SqT.of hp, atI_nat (tk_get hk), rfl, _, rfl, ?_⟩
  rw [oV_non]
  cases e : own gs row k with
  | some z => exact iteT (qE (by rw [e]; simp) H2 s02)
  | none =>
    refine iteF ?_
    refine ⟨_, rfl, r, rfl, ⟨_, SqT.of hr2⟩, ?_⟩
    refine lc_flt (l := row) (X := nV) (runs_tup (SqT.of hr2)) (fun j => decide (j ≠ k) && decide (hd1 gs row j = some k)) (by omega) (fun _ => by rfl) (fun _ => by rfl) ?_ ?_
    · intro j H3 Q hj s3 kq
      refine ⟨_, rfl, _, rfl, rfl, _, rfl, ?_⟩
      have e1 : (!decide (nV j = nV k)) = decide (j ≠ k) := by rw [nV_eq, decide_not]
      by_cases hjk : j ≠ k
      · refine iteC (e1.trans (decide_eq_true hjk)) ?_
        refine ⟨_, rfl, _, rfl, _, rfl, _, rfl, w, m, gs, r, row, p, j, rfl, hw2.mono s3, wa.wf.len, s3 _ _ hr2, ho, s3 _ _ hp, fun H4 s4 => ?_⟩
        refine ⟨_, rfl, (optN_eq _ _).1, _, rfl, ?_⟩
        have z := kq H4 s4
        rw [decide_eq_true hjk, Bool.true_and, ← (optN_eq _ _).2] at z
        exact z
      · refine iteD (e1.trans (decide_eq_false hjk)) ?_
        have z := kq H3 (Same.refl _)
        rw [decide_eq_false hjk, Bool.false_and] at z
        exact z
    · intro D H' hD s hy
      rw [hps_eq] at hy
      refine ⟨D, (row.filter fun j => decide (hd1 gs row j = some k)).map fun k : Nat => (k : Int), rfl, SqL.of (by rw [hy, row_cast]), fun ns' p4 hperm hsort hp4 => ?_⟩
      have en := sorted_row ho (fun j => decide (hd1 gs row j = some k)) hperm hsort
      have s3 := s02.trans s
      have s4 := s3.trans (same_new (o := .lst (ns'.map V.int)) hp4)
      refine ⟨p4, _, rfl, .inl ⟨SqL.of upd_same, fun p5 hp5 => ?_⟩⟩
      refine q e _ _ (s4.trans (same_new hp5)) ⟨p5, rfl, nw_of (s4.free hp5) ?_⟩
      rw [upd_same, en, ← row_cast]
      rfl
theorem sc_is_harmless : FnScope ["web", "order", "near", "guest", "rest", "far", "own"] ["web", "order", "near", "guest"] (defScope (top 28)) := ⟨rfl, rfl, rfl, by decide +kernel, rfl, by decide +kernel, by decide +kernel⟩

theorem h_is_harmless (F : At K mg "is_harmless" 28) (Z : Free mg) (c_without_one : Has P w K mg base CX0 1 "without_one" ["order", "guest"] sp_off) (c_seated_in : Has P w K mg base CX0 3 "seated_in" ["web", "row"] sp_run) : Has P w K mg base CX0 4 "is_harmless" ["web", "order", "near", "guest"] sp_is_harmless := by
  refine Has.mk0 F sc_is_harmless (fun _ _ _ _ _ _ us hl => match us, hl with | [_, _, _, _], _ => rfl) (fun vs H Q E h => by first | (obtain ⟨rfl, _⟩ := h; rfl) | (obtain ⟨_, rfl, _⟩ := h; rfl) | (obtain ⟨_, _, rfl, _⟩ := h; rfl) | (obtain ⟨_, _, _, rfl, _⟩ := h; rfl) | (obtain ⟨_, _, _, _, rfl, _⟩ := h; rfl) | (obtain ⟨_, _, _, _, _, rfl, _⟩ := h; rfl) | (obtain ⟨_, _, _, _, _, _, rfl, _⟩ := h; rfl) | (obtain ⟨_, _, _, _, _, _, _, rfl, _⟩ := h; rfl)) fun f cdv A outer s H vs Q E hr h => ?_
  refine ⟨_, (pss_cons (ps_set (i := 4) sc_is_harmless.nd rfl (.inl rfl) (pe_has c_without_one hr (by decide) rfl (pa_cons (pv 1) (pa_cons (pv 3) pa_nil))))
      (pss_cons (ps_set (i := 5) sc_is_harmless.nd rfl (.inr rfl) (pe_has c_seated_in hr (by decide) rfl (pa_cons (pv 0) (pa_cons (pv 4) pa_nil))))
      (pss_one (ps_ret (pe_callB (k_all K) rfl Z.all PyProof.Rows.boot_all (pa_cons (pe_lcI (own := [("own", 6)]) (g := gName 6) (tt := tYes) rfl sc_is_harmless.nd (k_tup K (pv 4)) (blkOk_by (own := [("own", 6)]) (N := ["web", "order", "near", "guest", "rest", "far", "own"]) (sc := defScope (top 28)) (by decide +kernel)) (fun _ _ _ _ _ => pg_name (i := 6) sc_is_harmless.nd rfl (Or.inl rfl)) (fun _ _ _ _ _ => pts_nil) (fun _ _ _ _ _ => (pe_cmpR op_eq (pe_ix (k_ixT K) (pv 2) (pv 6) (fun _ _ => rfl)) (pe_ix (k_ixT K) (pv 5) (pv 6) (fun _ _ => rfl)) (nomark _)))) pa_nil)))))), ?_⟩
  obtain ⟨v, m, gs, r, row, a, k, rfl, hw, hg, hr2, ho, ha, q⟩ := h
  have hn : row.length ≤ 1000 := by rw [ho.len]; exact hg
  refine ⟨_, rfl, _, rfl, r, row, k, rfl, hr2, hn, fun x H1 s1 hx => ?_⟩
  obtain ⟨p, rfl, hp⟩ := hx
  have hp1 := (of_nw hp).2
  refine ⟨v, rfl, _, rfl, v, m, gs, p, off row k, rfl, hw.mono s1, hg, hp1, (fun j hj => ho.lt j (off_mem hj)), Nat.le_trans (off_len row k) hn, fun x H2 s2 hx => ?_⟩
  obtain ⟨p2, rfl, hp2⟩ := hx
  have hp3 := (of_nw hp2).2
  refine ⟨_, rfl, p, rfl, ⟨_, SqT.of (s2 _ _ hp1)⟩, ?_⟩
  refine lc_map (runs_tup (SqT.of (s2 _ _ hp1))) (fun i y _ => ∃ j, (off row k)[i]? = some j ∧ y = .bl (decide (own gs row j = own gs (off row k) j))) (fun _ _ _ _ _ e => e) (by rw [List.length_map]; exact Nat.le_trans (off_len row k) (by omega)) (fun _ => by rfl) ?_ ?_
  · intro i x H3 Q hi s3 kq
    obtain ⟨j, hj, rfl⟩ := nat_item hi
    have hlt := ho.lt j (off_mem (List.mem_of_getElem? hj))
    refine ⟨_, rfl, _, rfl, a, _, (j : Int), _, rfl, rfl, SqT.of (((s1.trans s2).trans s3) _ _ ha), atI_nat (tk_get hlt), _, rfl, _, rfl, p2, _, (j : Int), _, rfl, rfl, SqT.of (s3 _ _ hp3), atI_nat (tk_get hlt), (oV_eq _ _).1, ?_⟩
    rw [(oV_eq _ _).2]
    exact kq _ _ (Same.refl _) ⟨j, hj, rfl⟩
  · intro D ys H' hD s hy hl hR
    have e : ys = ((off row k).map fun j => decide (own gs row j = own gs (off row k) j)).map V.bl := by
      refine List.ext_getElem? fun i => ?_
      rw [List.length_map] at hl
      by_cases hi : i < ys.length
      · obtain ⟨j, h1, h2⟩ := hR i _ (List.getElem?_eq_getElem hi)
        rw [List.getElem?_eq_getElem hi, h2, List.map_map, List.getElem?_map, h1]
        rfl
      · rw [List.getElem?_eq_none (by omega), List.getElem?_eq_none (by rw [List.length_map, List.length_map]; omega)]
    refine ⟨D, _, rfl, SqL.of (by rw [hy, e]), ?_⟩
    have e2 : ((off row k).map fun j => decide (own gs row j = own gs (off row k) j)).all id = same1 gs row k := by
      unfold same1
      rw [List.all_map]
      rfl
    rw [e2]
    exact q H' ((s1.trans s2).trans s)
theorem sc_harmless : FnScope ["web", "order", "own", "row", "near", "guest"] ["web", "order"] (defScope (top 29)) := ⟨rfl, rfl, rfl, by decide +kernel, rfl, by decide +kernel, by decide +kernel⟩

theorem h_harmless (F : At K mg "harmless" 29) (Z : Free mg) (c_sure_web : Has P w K mg base CX0 5 "sure_web" ["web"] sp_sure_web) (c_sure_order : Has P w K mg base CX0 5 "sure_order" ["web", "order"] sp_sure_order) (c_seated_in : Has P w K mg base CX0 3 "seated_in" ["web", "row"] sp_run) (c_is_harmless : Has P w K mg base CX0 4 "is_harmless" ["web", "order", "near", "guest"] sp_is_harmless) : Has P w K mg base CX0 6 "harmless" ["web", "order"] sp_harmless := by
  refine Has.mk0 F sc_harmless (fun _ _ _ _ _ _ us hl => match us, hl with | [_, _], _ => rfl) (fun vs H Q E h => by first | (obtain ⟨rfl, _⟩ := h; rfl) | (obtain ⟨_, rfl, _⟩ := h; rfl) | (obtain ⟨_, _, rfl, _⟩ := h; rfl) | (obtain ⟨_, _, _, rfl, _⟩ := h; rfl) | (obtain ⟨_, _, _, _, rfl, _⟩ := h; rfl) | (obtain ⟨_, _, _, _, _, rfl, _⟩ := h; rfl) | (obtain ⟨_, _, _, _, _, _, rfl, _⟩ := h; rfl) | (obtain ⟨_, _, _, _, _, _, _, rfl, _⟩ := h; rfl)) fun f cdv A outer s H vs Q E hr h => ?_
  refine ⟨_, (pss_cons (ps_set (i := 2) sc_harmless.nd rfl (.inr rfl) (pe_has c_sure_web hr (by decide) rfl (pa_cons (pv 0) pa_nil)))
      (pss_cons (ps_set (i := 3) sc_harmless.nd rfl (.inr rfl) (pe_has c_sure_order hr (by decide) rfl (pa_cons (pv 2) (pa_cons (pv 1) pa_nil))))
      (pss_cons (ps_set (i := 4) sc_harmless.nd rfl (.inr rfl) (pe_has c_seated_in hr (by decide) rfl (pa_cons (pv 2) (pa_cons (pv 3) pa_nil))))
      (pss_one (ps_ret (pe_callTy (k_tupOf K) rfl Z.tuple PyProof.Rows.boot_tuple (pa_cons (pe_lcI (own := [("guest", 5)]) (g := gName 5)  rfl sc_harmless.nd (k_list K (pe_callB (k_sortT K) rfl Z.sorted PyProof.Rows.boot_sorted (pa_cons (pv 3) pa_nil))) (blkOk_by (own := [("guest", 5)]) (N := ["web", "order", "own", "row", "near", "guest"]) (sc := defScope (top 29)) (by decide +kernel)) (fun _ _ _ _ _ => pg_name (i := 5) sc_harmless.nd rfl (Or.inl rfl)) (fun _ _ _ _ _ => (pts_one (pt_val (pe_has c_is_harmless hr (by decide) rfl (pa_cons (pv 2) (pa_cons (pv 3) (pa_cons (pv 4) (pa_cons (pv 5) pa_nil)))))))) (fun _ _ _ _ _ => (pv 5))) pa_nil))))))), ?_⟩
  obtain ⟨v, u, m, gs, row, rfl, wa, oa, q⟩ := h
  have ho := oa.ord
  have hn : row.length ≤ 1000 := by rw [ho.len]; exact wa.wf.len
  refine ⟨v, rfl, v, m, gs, rfl, wa, fun w H1 s1 r1 => ?_⟩
  refine ⟨w, rfl, u, rfl, w, u, m, gs, row, rfl, r1.mono nw_same, wa.wf, oa.mono s1, fun x H2 s2 hx => ?_⟩
  obtain ⟨r, rfl, hr0⟩ := hx
  have hr2 := (of_nw hr0).2
  have hw2 := (r1.mono nw_same).mono s2
  refine ⟨w, rfl, _, rfl, w, m, gs, r, row, rfl, hw2, wa.wf.len, hr2, ho.lt, hn, fun x H3 s3 hx => ?_⟩
  obtain ⟨p, rfl, hp⟩ := hx
  have hp3 := (of_nw hp).2
  have hr3 := s3 _ _ hr2
  have hw3 := hw2.mono s3
  have s03 := (s1.trans s2).trans s3
  refine ⟨_, rfl, r, row.map fun k : Nat => (k : Int), rfl, SqT.of (by rw [← row_cast]; exact hr3), fun ns' p4 hperm hsort hp4 => ?_⟩
  have en : ns'.map V.int = (List.range gs.length).map nV := by
    have e := sorted_row ho (fun _ => true) (ns := ns') (by rw [List.filter_eq_self.mpr (fun _ _ => rfl)]; exact hperm) hsort
    rw [List.filter_eq_self.mpr (fun _ _ => rfl)] at e
    rw [e, row_cast]
  have hL : SqL K (upd H3 p4 (.lst (ns'.map V.int))) p4 ((List.range gs.length).map nV) := SqL.of (by rw [upd_same, en])
  have s4 : Same H3 (upd H3 p4 (.lst (ns'.map V.int))) := same_new hp4
  generalize upd H3 p4 (.lst (ns'.map V.int)) = H4 at hL s4
  refine ⟨p4, rfl, ⟨_, hL⟩, ?_⟩
  refine lc_flt (l := List.range gs.length) (X := nV) (runs_list hL) (same1 gs row) (by rw [List.length_range]; have := wa.wf.len; omega) (fun _ => by rfl) (fun _ => by rfl) ?_ ?_
  · intro j H5 Q hj s5 kq
    have s35 := s4.trans s5
    exact ⟨w, rfl, _, rfl, _, rfl, _, rfl, w, m, gs, r, row, p, j, rfl, hw3.mono s35, wa.wf.len, s35 _ _ hr3, ho, s35 _ _ hp3, fun H6 s6 => ⟨_, rfl, kq H6 s6⟩⟩
  · intro D H' hD s hy
    refine ⟨D, _, rfl, .inl ⟨SqL.of hy, fun p5 hp5 => ?_⟩⟩
    have sE := (s03.trans s4).trans s
    exact q _ _ (sE.trans (same_new hp5)) ⟨p5, rfl, nw_of (sE.free hp5) upd_same⟩
theorem sc_law_box : FnScope ["_law_script", "_law_k", "_law_bit_so"] ["_law_script", "_law_k"] (defScope (top 31)) := ⟨rfl, rfl, rfl, by decide +kernel, rfl, by decide +kernel, by decide +kernel⟩

theorem h_law_box (F : At K mg "_law_box" 31) (Z : Free mg) : Has P w K mg base CX0 1 "_law_box" ["_law_script", "_law_k"] sp_box := by
  refine Has.mk0 F sc_law_box (fun _ _ _ _ _ _ us hl => match us, hl with | [_, _], _ => rfl) (fun vs H Q E h => by first | (obtain ⟨rfl, _⟩ := h; rfl) | (obtain ⟨_, rfl, _⟩ := h; rfl) | (obtain ⟨_, _, rfl, _⟩ := h; rfl) | (obtain ⟨_, _, _, rfl, _⟩ := h; rfl) | (obtain ⟨_, _, _, _, rfl, _⟩ := h; rfl) | (obtain ⟨_, _, _, _, _, rfl, _⟩ := h; rfl) | (obtain ⟨_, _, _, _, _, _, rfl, _⟩ := h; rfl) | (obtain ⟨_, _, _, _, _, _, _, rfl, _⟩ := h; rfl)) fun f cdv A outer s H vs Q E hr h => ?_
  refine ⟨_, (pss_cons (ps_set (i := 2) sc_law_box.nd rfl (.inl rfl) (pe_ifExp (pt_cmpR op_lt (pv 1) (pe_callB (k_len K) rfl Z.len PySem.boot_len (pa_cons (pv 0) pa_nil)) (nomark _)) (pe_ix (k_ixL K) (pv 0) (pv 1) (fun _ _ => rfl)) pe_int))
      (pss_one (ps_ret (pe_lst (pa_cons (pe_op op_mul (pe_callB call_abs rfl Z.abs (by decide +kernel) (pa_cons (pv 2) pa_nil)) (pe_callTy call_int1 rfl Z.int PyProof.Rows.boot_int (pa_cons (pe_cmpR op_ge (pe_callB call_abs rfl Z.abs (by decide +kernel) (pa_cons (pv 2) pa_nil)) (pe_op op_pow pe_int pe_int) (nomark _)) pa_nil))) (pa_cons (pe_op op_add (pe_op op_add (pe_op op_mod (pe_callTy call_int1 rfl Z.int PyProof.Rows.boot_int (pa_cons (pv 2) pa_nil)) pe_int) (pe_op op_mul pe_int (pv 1))) pe_int) (pa_cons pe_int pa_nil))))))), ?_⟩
  obtain ⟨c, z, rfl, hc, q⟩ := h
  refine ⟨_, rfl, _, rfl, c, _, rfl, .inl (SqL.of hc), 0, _, rfl, rfl, _, rfl, iteC (by rfl) ?_⟩
  refine ⟨_, rfl, _, rfl, c, _, 0, _, rfl, rfl, SqL.of hc, atI_nat (j := 0) rfl, ?_⟩
  -- abs(bit) * int(abs(bit) >= 10 ** 18)
  refine ⟨_, rfl, z, rfl, _, rfl, z, rfl, 10, 18, rfl, rfl, ⟨by decide, by decide, by decide⟩, _, _, rfl, rfl, .inr ⟨_, rfl, ?_⟩⟩
  generalize hb : decide ((10 : Int) ^ (18 : Int).toNat ≤ (if z < 0 then -z else z)) = b
  refine ⟨_, _, rfl, rfl, .inr ⟨?_, ?_⟩, ?_⟩
  · cases b <;> decide
  · cases b <;> decide
  -- int(bit) % .. + 39373 * k + 3196032
  refine ⟨_, rfl, .inl ⟨z, rfl, z, 2305843009213693951, rfl, rfl, (by show (0 : Int) < 2305843009213693951; decide), _, rfl, 39373, 0, rfl, rfl, .inl ⟨by decide, by decide⟩, _, _, rfl, rfl, _, _, rfl, rfl, ?_⟩⟩
  refine ⟨by show 3 ≤ sizeLine; decide, fun t ht => ?_⟩
  refine q _ _ (same_new ht) ⟨t, rfl, _, _, _, nw_of ht upd_same, ?_, ⟨?_, ?_⟩, by decide, by decide⟩
  · refine Int.mul_nonneg ?_ ?_
    · split <;> omega
    · cases b <;> decide
  · have h1 := Int.emod_nonneg z (show (2305843009213693951 : Int) ≠ 0 by decide)
    show 0 ≤ z % 2305843009213693951 + 39373 * 0 + 3196032
    omega
  · have h1 := Int.emod_lt_of_pos z (show (0 : Int) < 2305843009213693951 by decide)
    show z % 2305843009213693951 + 39373 * 0 + 3196032 < 2 ^ 62
    omega
theorem sc_law_take : FnScope ["_law_tin", "_law_below_so", "_law_drawn", "_law_once_so", "_law_wide_so", "_law_twice_so"] ["_law_tin", "_law_below_so"] (defScope (top 32)) := ⟨rfl, rfl, rfl, by decide +kernel, rfl, by decide +kernel, by decide +kernel⟩

theorem h_law_take (F : At K mg "_law_take" 32) (Z : Free mg) : Has P w K mg base CX0 1 "_law_take" ["_law_tin", "_law_below_so"] sp_take := by
  refine Has.mk0 F sc_law_take (fun _ _ _ _ _ _ us hl => match us, hl with | [_, _], _ => rfl) (fun vs H Q E h => by first | (obtain ⟨rfl, _⟩ := h; rfl) | (obtain ⟨_, rfl, _⟩ := h; rfl) | (obtain ⟨_, _, rfl, _⟩ := h; rfl) | (obtain ⟨_, _, _, rfl, _⟩ := h; rfl) | (obtain ⟨_, _, _, _, rfl, _⟩ := h; rfl) | (obtain ⟨_, _, _, _, _, rfl, _⟩ := h; rfl) | (obtain ⟨_, _, _, _, _, _, rfl, _⟩ := h; rfl) | (obtain ⟨_, _, _, _, _, _, _, rfl, _⟩ := h; rfl)) fun f cdv A outer s H vs Q E hr h => ?_
  refine ⟨_, (pss_cons (ps_if (pt_cmpR op_gt (pe_ix (k_ixL K) (pv 0) pe_int (fun _ _ => rfl)) pe_int (nomark _)) (pss_cons (ps_set (i := 2) sc_law_take.nd rfl (.inl rfl) (pe_op op_mod (pe_callTy call_int1 rfl Z.int PyProof.Rows.boot_int (pa_cons (pe_ix (k_ixL K) (pv 0) pe_int (fun _ _ => rfl)) pa_nil)) (pv 1)))
      (pss_cons (ps_asg (pe_op op_fdiv (pe_ix (k_ixL K) (pv 0) pe_int (fun _ _ => rfl)) (pv 1)) (pg_sub (pv 0) pe_int set_list))
      (pss_one (ps_ret (pv 2))))) pss_nil)
      (pss_cons (ps_asg (pe_op op_add (pe_ix (k_ixL K) (pv 0) pe_int (fun _ _ => rfl)) pe_int) (pg_sub (pv 0) pe_int set_list))
      (pss_cons (ps_set (i := 3) sc_law_take.nd rfl (.inl rfl) (pe_op op_mod (pe_callTy call_int1 rfl Z.int PyProof.Rows.boot_int (pa_cons (pe_op op_mul (pe_op op_add (pe_ix (k_ixL K) (pv 0) pe_int (fun _ _ => rfl)) (pe_op op_mul pe_int (pe_ix (k_ixL K) (pv 0) pe_int (fun _ _ => rfl)))) (pe_op op_add pe_int (pe_ix (k_ixL K) (pv 0) pe_int (fun _ _ => rfl)))) pa_nil)) pe_int))
      (pss_cons (ps_set (i := 4) sc_law_take.nd rfl (.inl rfl) (pe_op op_add (pe_op op_mod (pe_callTy call_int1 rfl Z.int PyProof.Rows.boot_int (pa_cons (pv 3) pa_nil)) pe_int) pe_int))
      (pss_cons (ps_set (i := 5) sc_law_take.nd rfl (.inl rfl) (pe_op op_mod (pe_callTy call_int1 rfl Z.int PyProof.Rows.boot_int (pa_cons (pe_op op_mul (pe_op op_add (pe_op op_add (pv 3) (pe_ix (k_ixL K) (pv 0) pe_int (fun _ _ => rfl))) (pe_op op_fdiv (pe_ix (k_ixL K) (pv 0) pe_int (fun _ _ => rfl)) pe_int)) (pv 4)) pa_nil)) pe_int))
      (pss_one (ps_ret (pe_op op_mod (pe_callTy call_int1 rfl Z.int PyProof.Rows.boot_int (pa_cons (pe_op op_fdiv (pe_op op_mod (pe_callTy call_int1 rfl Z.int PyProof.Rows.boot_int (pa_cons (pe_op op_add (pe_op op_mul (pv 5) pe_int) (pv 3)) pa_nil)) pe_int) pe_int) pa_nil)) (pv 1))))))))), ?_⟩
  obtain ⟨t, m, n, rfl, ⟨a, b, c, ht, ha, ⟨hb0, hb1⟩, hc0, hc1⟩, hm, ⟨hn1, hn2⟩, q⟩ := h
  have hz : ∀ xs : List V, (∀ z, H z = none → upd H t (.lst xs) z = none) := fun xs z hz => by
    rw [upd_ne (fun e => by rw [e, ht] at hz; cases hz)]
    exact hz
  have sb : ∀ xs : List V, SameB t H (upd H t (.lst xs)) := fun xs z o hzt e => by
    rw [upd_ne hzt]
    exact e
  refine ⟨_, rfl, t, _, 0, _, rfl, rfl, SqL.of ht, atI_nat (j := 0) rfl, a, 0, rfl, rfl, _, rfl, ?_⟩
  refine ite2 (fun c1 => ?_) (fun c1 => ?_)
  · have ha1 : 0 < a := of_decide_eq_true c1
    refine ⟨_, rfl, t, _, 0, _, rfl, rfl, SqL.of ht, atI_nat (j := 0) rfl, .inl ⟨a, rfl, _, rfl, a, n, rfl, rfl, (by show (0 : Int) < n; omega), ?_⟩⟩
    refine ⟨_, rfl, t, _, 0, _, rfl, rfl, SqL.of ht, atI_nat (j := 0) rfl, _, rfl, a, n, rfl, rfl, ⟨by omega, by omega⟩, _, rfl, t, _, 0, 0, rfl, rfl, ht, rfl, ?_⟩
    refine ⟨_, rfl, q _ _ ⟨Int.emod_nonneg _ (by omega), Int.emod_lt_of_pos _ (by omega)⟩ (sb _) (hz _) ⟨a / n, b, c, upd_same, Int.ediv_nonneg ha (by omega), ⟨hb0, hb1⟩, hc0, by omega⟩⟩
  · -- tin[2] = tin[2] + 1
    refine ⟨_, rfl, t, _, 2, _, rfl, rfl, SqL.of ht, atI_nat (j := 2) rfl, c, 1, rfl, rfl, _, rfl, t, _, 2, 2, rfl, rfl, ht, rfl, ?_⟩
    have h2 : upd H t (.lst [.int a, .int b, .int (c + 1)]) t = some (.lst [.int a, .int b, .int (c + 1)]) := upd_same
    show tSeq _ _ _ _ (upd H t (.lst [.int a, .int b, .int (c + 1)]))
    have sb' := sb [.int a, .int b, .int (c + 1)]
    have hz' := hz [.int a, .int b, .int (c + 1)]
    generalize upd H t (.lst [.int a, .int b, .int (c + 1)]) = H2 at h2 sb' hz'
    have fin : ∀ x : Int, Q (.int (x % n)) H2 := fun x => q _ _ ⟨Int.emod_nonneg _ (by omega), Int.emod_lt_of_pos _ (by omega)⟩ sb' hz' ⟨a, b, c + 1, h2, ha, ⟨hb0, hb1⟩, by omega, by omega⟩
    -- once
    refine ⟨_, rfl, t, _, 1, _, rfl, rfl, SqL.of h2, atI_nat (j := 1) rfl, _, rfl, t, _, 2, _, rfl, rfl, SqL.of h2, atI_nat (j := 2) rfl, 48271, c + 1, rfl, rfl, .inl ⟨by decide, by decide⟩, b, 48271 * (c + 1), rfl, rfl, ?_⟩
    refine ⟨_, rfl, t, _, 2, _, rfl, rfl, SqL.of h2, atI_nat (j := 2) rfl, 39373, c + 1, rfl, rfl, _, _, rfl, rfl, .inr ⟨by omega, by omega⟩, ?_⟩
    refine .inl ⟨_, rfl, _, 2147483647, rfl, rfl, (by show (0 : Int) < 2147483647; decide), ?_⟩
    dsimp only
    generalize ho : (b + 48271 * (c + 1)) * (39373 + (c + 1)) % 2147483647 = once
    have o0 : 0 ≤ once := by rw [← ho]; exact Int.emod_nonneg _ (by decide)
    have o1 : once < 2147483647 := by rw [← ho]; exact Int.emod_lt_of_pos _ (by decide)
    -- wide
    refine ⟨_, rfl, .inl ⟨once, rfl, once, 40009, rfl, rfl, (by show (0 : Int) < 40009; decide), _, 7, rfl, rfl, ?_⟩⟩
    have w0 := Int.emod_nonneg once (show (40009 : Int) ≠ 0 by decide)
    have w1 := Int.emod_lt_of_pos once (show (0 : Int) < 40009 by decide)
    -- twice
    refine ⟨_, rfl, _, rfl, t, _, 2, _, rfl, rfl, SqL.of h2, atI_nat (j := 2) rfl, once, c + 1, rfl, rfl, _, rfl, t, _, 1, _, rfl, rfl, SqL.of h2, atI_nat (j := 1) rfl, b, 1000003, rfl, rfl, ⟨by decide, by decide⟩, _, _, rfl, rfl, _, rfl, _, _, rfl, rfl, .inr ⟨by omega, by omega⟩, ?_⟩
    refine .inl ⟨_, rfl, _, 2147483629, rfl, rfl, (by show (0 : Int) < 2147483629; decide), ?_⟩
    dsimp only
    generalize (once + (c + 1) + b / 1000003) * (once % 40009 + 7) % 2147483629 = twice
    -- the end
    refine ⟨_, rfl, twice, 48271, rfl, rfl, .inr ⟨by decide, by decide⟩, _, rfl, _, once, rfl, rfl, ?_⟩
    refine .inl ⟨_, rfl, _, 2147483587, rfl, rfl, (by show (0 : Int) < 2147483587; decide), _, 64, rfl, rfl, ⟨by decide, by decide⟩, ?_⟩
    exact .inl ⟨_, rfl, _, rfl, _, n, rfl, rfl, (by show (0 : Int) < n; omega), fin _⟩
theorem sc_law_cells : FnScope ["_law_script", "_law_most_so", "_law_cells_so", "_law_k", "_law_bit_so", "_law_at_so"] ["_law_script", "_law_most_so"] (defScope (top 33)) := ⟨rfl, rfl, rfl, by decide +kernel, rfl, by decide +kernel, by decide +kernel⟩
theorem or_read {σ : L2.St} {H : Hp} {Q : VK} {s : Addr} {ns : List Int} (hs : SqL K H s (ns.map V.int)) (h0 : σ[0]? = some (some (.ref s))) (h1 : σ[1]? = some (some (.int 1)))
    (k : ∀ (l : Addr) (z : Int) (H1 : Hp), Same H H1 → H l = none → H1 l = some (.lst [.int z]) → Q (.ref l) H1) :
    tOrT K (tCB (rLstOf K) (tCons (tSl (rSlL K) (tVar 0) tNoPart (tPart (tVar 1))) tNil)) (tLst (tCons (tC (.int 0)) tNil)) σ H Q := by
  refine ⟨_, h0, .int 1, h1, 1, rfl, s, _, rfl, hs, fun p hp => ?_⟩
  have s1 : Same H (upd H p (.lst (cutV (ns.map V.int) none (some 1)))) := same_new hp
  refine ⟨p, _, rfl, .inl (SqL.of upd_same), fun l hl => ?_⟩
  have s2 : Same H (upd (upd H p (.lst (cutV (ns.map V.int) none (some 1)))) l (.lst (cutV (ns.map V.int) none (some 1)))) := s1.trans (same_new hl)
  have hl0 := s1.free hl
  refine ⟨_, .inl ⟨_, SqL.of upd_same, rfl⟩, ?_⟩
  cases ns with
  | nil =>
    refine iteD (by rfl) ?_
    refine ⟨by show 1 ≤ sizeLine; decide, fun l2 hl2 => ?_⟩
    exact k l2 0 _ (s2.trans (same_new hl2)) (s2.free hl2) upd_same
  | cons n r =>
    have e : cutV ((n :: r).map V.int) none (some 1) = [.int n] := by
      unfold cutV
      rw [HT.sIx_none, show HT.sIx ((n :: r).map V.int).length ((n :: r).map V.int).length (some 1) = min 1 ((n :: r).map V.int).length from HT.sIx_nat _ _ 1]
      rw [show min 1 ((n :: r).map V.int).length = 1 by rw [List.length_map, List.length_cons]; omega]
      rfl
    rw [e] at s2 ⊢
    exact iteC (by rfl) (k l n _ s2 hl0 upd_same)
theorem cut_ints (ns : List Int) (a b : Option Int) : ∀ x ∈ cutV (ns.map V.int) a b, ∃ z : Int, x = .int z := fun x hx => by
  unfold cutV at hx
  obtain ⟨z, _, e⟩ := List.mem_map.mp (List.mem_of_mem_drop (List.mem_of_mem_take hx))
  exact ⟨z, e.symm⟩
theorem h_law_cells (F : At K mg "_law_cells" 33) (Z : Free mg) : Has P w K mg base CX0 1 "_law_cells" ["_law_script", "_law_most_so"] (sp_cells K) := by
  refine Has.mk0 F sc_law_cells (fun _ _ _ _ _ _ us hl => match us, hl with | [_, _], _ => rfl) (fun vs H Q E h => by first | (obtain ⟨rfl, _⟩ := h; rfl) | (obtain ⟨_, rfl, _⟩ := h; rfl) | (obtain ⟨_, _, rfl, _⟩ := h; rfl) | (obtain ⟨_, _, _, rfl, _⟩ := h; rfl) | (obtain ⟨_, _, _, _, rfl, _⟩ := h; rfl) | (obtain ⟨_, _, _, _, _, rfl, _⟩ := h; rfl) | (obtain ⟨_, _, _, _, _, _, rfl, _⟩ := h; rfl) | (obtain ⟨_, _, _, _, _, _, _, rfl, _⟩ := h; rfl)) fun f cdv A outer s H vs Q E hr h => ?_
  refine ⟨_, (pss_cons (ps_set (i := 2) sc_law_cells.nd rfl (.inl rfl) (k_orT K (pe_callTy (k_lstOf K) rfl Z.list PyProof.Rows.boot_list (pa_cons (pe_slice (k_sl K) (pv 0) po_none (po_some (pv 1))) pa_nil)) (pe_one (pe_lst (pa_cons pe_int pa_nil)))))
      (pss_cons (ps_for PassesOwn.never rfl (pi_enum rfl Z.enumerate (pa_cons (pe_slice (k_sl K) (pv 0) (po_some (pv 1)) (po_some pe_int)) pa_nil)) (pg_tup rfl (pgs_cons (pg_name (i := 3) sc_law_cells.nd rfl (.inl rfl)) (pgs_cons (pg_name (i := 4) sc_law_cells.nd rfl (.inl rfl)) pgs_nil))) (pss_cons (ps_set (i := 5) sc_law_cells.nd rfl (.inl rfl) (pe_op op_mod (pe_callTy call_int1 rfl Z.int PyProof.Rows.boot_int (pa_cons (pv 3) pa_nil)) (pv 1)))
      (pss_one (ps_asg (pe_op op_add (pe_ix (k_ixL K) (pv 2) (pv 5) (fun _ _ => rfl)) (pe_op op_mul (pv 4) (pe_op op_add (pv 3) pe_int))) (pg_sub (pv 2) (pv 5) set_list)))))
      (pss_one (ps_ret (pv 2))))), ?_⟩
  obtain ⟨a, ns, rfl, hs, hn, q⟩ := h
  refine or_read hs rfl rfl fun l z H1 s1 hl0 hl => ?_
  refine ⟨_, rfl, .int 1, rfl, 1, rfl, 63, rfl, a, _, rfl, s1.seq hs, fun p hp => ?_⟩
  have hlc : (cutV (ns.map V.int) (some 1) (some 63)).length ≤ 63 := by
    have := cutV_length (ns.map V.int) (some 1) (some 63)
    rw [List.length_map] at this
    omega
  have hci := cut_ints ns (some 1) (some 63)
  generalize cutV (ns.map V.int) (some 1) (some 63) = cut at hlc hci
  have hpl : p ≠ l := fun e => by rw [e, hl] at hp; cases hp
  refine ⟨p, cut, rfl, SqL.of upd_same, ?_⟩
  refine for_any cut.length (fun i σ H' => ∃ x3 x4 x5 z, σ = [some (.ref a), some (.int 1), some (.ref l), x3, x4, x5] ∧ Same H H' ∧ H' p = some (.lst cut) ∧ H' l = some (.lst [.int z])) ?_ ?_ ?_ ?_ ?_
  · exact ⟨none, none, none, z, rfl, s1.trans (same_new hp), upd_same, by rw [upd_ne hpl.symm]; exact hl⟩
  · rintro i σ H' hi ⟨x3, x4, x5, z, rfl, s, hp', hl'⟩
    exact ⟨cut, cut[i], SqL.of hp', List.getElem?_eq_getElem hi⟩
  · rintro σ H' ⟨x3, x4, x5, z, rfl, s, hp', hl'⟩
    exact ⟨cut, SqL.of hp', Nat.le_refl _⟩
  · rintro i σ H' x H'' hi ⟨x3, x4, x5, z, rfl, s, hp', hl'⟩ ⟨T, y, rfl, hT, rfl, hy⟩
    have hy' := hy cut (SqL.of hp')
    obtain ⟨b, rfl⟩ := hci y (List.mem_of_getElem? hy')
    have sT : Same H' (upd H' T (.tup [.int (i : Nat), .int b])) := same_new hT
    refine ⟨T, _, rfl, SqT.of upd_same, rfl, _, _, rfl, _, _, rfl, rfl, ?_⟩
    have hp2 := sT _ _ hp'
    have hl2 := sT _ _ hl'
    have s2 := s.trans sT
    generalize upd H' T (.tup [.int (i : Nat), .int b]) = H2 at hp2 hl2 s2
    refine ⟨_, rfl, .inl ⟨(i : Int), rfl, _, rfl, (i : Int), 1, rfl, rfl, (by show (0 : Int) < 1; decide), ?_⟩⟩
    dsimp only
    rw [Int.emod_one]
    refine ⟨_, rfl, _, rfl, l, _, 0, _, rfl, rfl, SqL.of hl2, atI_nat (j := 0) rfl, ?_⟩
    refine ⟨_, rfl, _, rfl, (i : Int), 2, rfl, rfl, b, (i : Int) + 2, rfl, rfl, .inr ⟨by omega, by omega⟩, z, b * ((i : Int) + 2), rfl, rfl, ?_⟩
    refine ⟨_, rfl, _, rfl, l, _, 0, 0, rfl, rfl, hl2, rfl, ?_⟩
    exact ⟨_, _, _, _, rfl, same_mut s2 hl0, by rw [upd_ne hpl]; exact hp2, upd_same⟩
  · rintro σ H' ⟨x3, x4, x5, z, rfl, s, hp', hl'⟩
    exact ⟨_, rfl, q _ _ s ⟨z, l, rfl, nw_of hl0 hl'⟩⟩
theorem sc_law_pick : FnScope ["_law_tin", "_law_goods_so", "_law_count_so", "_law_pool_so", "_law_found", "_law_lap"] ["_law_tin", "_law_goods_so", "_law_count_so"] (defScope (top 34)) := ⟨rfl, rfl, rfl, by decide +kernel, rfl, by decide +kernel, by decide +kernel⟩
theorem erase_perm {α : Type} : ∀ (l : List α) (k : Nat) (h : k < l.length), (l[k] :: l.eraseIdx k).Perm l
  | x :: l, 0, _ => .refl _
  | x :: l, k + 1, h => (List.Perm.swap x _ _).trans (.cons x (erase_perm l k (by simpa using h)))
theorem h_law_pick (F : At K mg "_law_pick" 34) (Z : Free mg) (c_law_take : Has P w K mg base CX0 1 "_law_take" ["_law_tin", "_law_below_so"] sp_take) : Has P w K mg base CX0 2 "_law_pick" ["_law_tin", "_law_goods_so", "_law_count_so"] sp_pick := by
  refine Has.mk0 F sc_law_pick (fun _ _ _ _ _ _ us hl => match us, hl with | [_, _, _], _ => rfl) (fun vs H Q E h => by first | (obtain ⟨rfl, _⟩ := h; rfl) | (obtain ⟨_, rfl, _⟩ := h; rfl) | (obtain ⟨_, _, rfl, _⟩ := h; rfl) | (obtain ⟨_, _, _, rfl, _⟩ := h; rfl) | (obtain ⟨_, _, _, _, rfl, _⟩ := h; rfl) | (obtain ⟨_, _, _, _, _, rfl, _⟩ := h; rfl) | (obtain ⟨_, _, _, _, _, _, rfl, _⟩ := h; rfl) | (obtain ⟨_, _, _, _, _, _, _, rfl, _⟩ := h; rfl)) fun f cdv A outer s H vs Q E hr h => ?_
  refine ⟨_, (pss_cons (ps_par (i := 3) (j := 4) (by rfl) sc_law_pick.nd rfl rfl (by decide) rfl rfl (pa_cons (pe_callTy (k_lstOf K) rfl Z.list PyProof.Rows.boot_list (pa_cons (pv 1) pa_nil)) (pa_cons (pe_lst pa_nil) pa_nil)) (by rfl))
      (pss_cons (ps_for PassesOwn.never rfl (pi_range1 rfl Z.range (pa_cons (pe_callB (call_min2 rfl) rfl Z.min PyProof.Rows.boot_min (pa_cons (pe_callTy call_int1 rfl Z.int PyProof.Rows.boot_int (pa_cons (pv 2) pa_nil)) (pa_cons (pe_callB (k_len K) rfl Z.len PySem.boot_len (pa_cons (pv 3) pa_nil)) pa_nil))) pa_nil)) (pg_name (i := 5) sc_law_pick.nd rfl (.inl rfl)) (pss_one (ps_expr (pe_bm PySem.F.plainAttrs_list PySem.F.slot_list_append PySem.F.type_list_append mt_append (pv 4) (pa_cons (pe_bm PySem.F.plainAttrs_list PySem.F.slot_list_pop PySem.F.type_list_pop mt_popAt (pv 3) (pa_cons (pe_has c_law_take hr (by decide) rfl (pa_cons (pv 0) (pa_cons (pe_callB (k_len K) rfl Z.len PySem.boot_len (pa_cons (pv 3) pa_nil)) pa_nil))) pa_nil)) pa_nil)))))
      (pss_one (ps_ret (pv 4))))), ?_⟩
  obtain ⟨t, g, m, c, xs, rfl, ht, hm, hg, hgt, hx, ⟨hc0, hc1⟩, q⟩ := h
  refine ⟨_, rfl, g, _, rfl, .inl (SqL.of hg), fun p hp => ?_⟩
  refine ⟨by show 0 ≤ sizeLine; decide, fun f hf => ⟨_, _, rfl, ?_⟩⟩
  have s1 : Same H (upd H p (.lst xs)) := same_new hp
  have hf0 := s1.free hf
  have hpf : p ≠ f := fun e => by rw [e, upd_same] at hf; cases hf
  have htn : ∃ o, H t = some o := by
    obtain ⟨a, b, c, h, _⟩ := ht
    exact ⟨_, h⟩
  have hpt : p ≠ t := fun e => by
    obtain ⟨o, h⟩ := htn
    rw [← e, hp] at h
    cases h
  have hft : f ≠ t := fun e => by
    obtain ⟨o, h⟩ := htn
    rw [← e, hf0] at h
    cases h
  have s2 : Same H (upd (upd H p (.lst xs)) f (.lst [])) := s1.trans (same_new hf)
  have hp2 : upd (upd H p (.lst xs)) f (.lst []) p = some (.lst xs) := by rw [upd_ne hpf, upd_same]
  have hf2 : upd (upd H p (.lst xs)) f (.lst []) f = some (.lst []) := upd_same
  generalize upd (upd H p (.lst xs)) f (.lst []) = H2 at s2 hp2 hf2
  refine ⟨_, rfl, .inl ⟨c, rfl, _, rfl, p, _, rfl, .inl (SqL.of hp2), _, _, rfl, _, rfl, ?_, ?_, ?_⟩⟩
  · split <;> omega
  · split <;> omega
  have en : (if (xs.length : Int) < c then (xs.length : Int) else c).toNat = min c.toNat xs.length := by
    split <;> omega
  rw [en]
  refine for_any (min c.toNat xs.length) (fun i σ H' => ∃ x5 ps fs, σ = [some (.ref t), some (.ref g), some (.int c), some (.ref p), some (.ref f), x5] ∧ SameB t H H' ∧ H' p = some (.lst ps) ∧ H' f = some (.lst fs) ∧ (fs ++ ps).Perm xs ∧ fs.length = i ∧ TinAt H' t (m + i)) ?_ ?_ ?_ ?_ ?_
  · obtain ⟨a, b, c', h, h1, h2, h3, h4⟩ := ht
    exact ⟨none, xs, [], rfl, fun z o _ e => s2 z o e, hp2, hf2, .refl _, rfl, a, b, c', s2 _ _ h, h1, h2, h3, by omega⟩
  · intro i σ H' hi _
    exact hi
  · intro σ H' _
    exact Nat.le_refl _
  · rintro i σ H' x H'' hi ⟨x5, ps, fs, rfl, sb, hps, hfs, pm, hl, tin⟩ ⟨rfl, rfl⟩
    have hlen := pm.length_eq
    rw [List.length_append] at hlen
    refine ⟨_, rfl, .inl ⟨rfl, _, SqL.of hfs⟩, _, rfl, .inl ⟨rfl, _, SqL.of hps⟩, ?_⟩
    refine ⟨_, rfl, _, rfl, p, ps, rfl, .inl (SqL.of hps), t, m + i, _, rfl, tin, by omega, ⟨by omega, by omega⟩, fun z H3 hz sb3 fr tin3 => ?_⟩
    have hps3 := sb3 _ _ hpt hps
    have hfs3 := sb3 _ _ hft hfs
    have hk : z.toNat < ps.length := by omega
    refine ⟨p, ps, z, z.toNat, ps[z.toNat], rfl, rfl, hps3, by omega, by omega, ?_, List.getElem?_eq_getElem hk, ?_⟩
    · unfold seqIndex?
      simp
      omega
    refine ⟨f, fs, _, rfl, rfl, by rw [upd_ne hpf.symm]; exact hfs3, sz_lt (by omega), ?_⟩
    refine ⟨_, _, _, rfl, ?_, by rw [upd_ne hpf, upd_same], upd_same, ?_, ?_, ?_⟩
    · intro b o hb e
      have bp : b ≠ p := fun h => by rw [h, hp] at e; cases e
      have bf : b ≠ f := fun h => by rw [h, hf0] at e; cases e
      rw [upd_ne bf, upd_ne bp]
      exact sb3 _ _ hb (sb _ _ hb e)
    · rw [List.append_assoc]
      exact (List.Perm.append_left fs (erase_perm ps _ hk)).trans pm
    · rw [List.length_append, hl]
      rfl
    · obtain ⟨a, b, c', h, h1, h2, h3, h4⟩ := tin3
      refine ⟨a, b, c', ?_, h1, h2, h3, by push_cast; omega⟩
      rw [upd_ne hft.symm, upd_ne hpt.symm]
      exact h
  · rintro σ H' ⟨x5, ps, fs, rfl, sb, hps, hfs, pm, hl, tin⟩
    refine ⟨_, rfl, q f fs ps H' pm hl sb ?_ hf0 hfs⟩
    obtain ⟨a, b, c', h, h1, h2, h3, h4⟩ := tin
    exact ⟨a, b, c', h, h1, h2, h3, by omega⟩
theorem sc_law_lists : FnScope ["_law_matter", "_law_bit"] ["_law_matter"] (defScope (top 35)) := ⟨rfl, rfl, rfl, by decide +kernel, rfl, by decide +kernel, by decide +kernel⟩

theorem r_law_lists  (F : At K mg "_law_lists" 35) (Z : Free mg) : ∀ n : Nat, Has P w K mg base CX0 (n + 1) "_law_lists" ["_law_matter"] (sp_lists n)
  | 0 => by
    have c_law_lists : Has P w K mg base CX0 0 "_law_lists" ["_law_matter"] sp_none := none_has F (fun _ _ _ _ _ _ us hl => match us, hl with | [_], _ => rfl)
    refine Has.mk0 F sc_law_lists (fun _ _ _ _ _ _ us hl => match us, hl with | [_], _ => rfl) (fun vs H Q E h => by first | (obtain ⟨rfl, _⟩ := h; rfl) | (obtain ⟨_, rfl, _⟩ := h; rfl) | (obtain ⟨_, _, rfl, _⟩ := h; rfl) | (obtain ⟨_, _, _, rfl, _⟩ := h; rfl) | (obtain ⟨_, _, _, _, rfl, _⟩ := h; rfl) | (obtain ⟨_, _, _, _, _, rfl, _⟩ := h; rfl) | (obtain ⟨_, _, _, _, _, _, rfl, _⟩ := h; rfl) | (obtain ⟨_, _, _, _, _, _, _, rfl, _⟩ := h; rfl)) fun f cdv A outer s H vs Q E hr h => ?_
    refine ⟨_, (pss_one (ps_ret (pe_ifExp (pt_val (pe_callB (k_isiT K) rfl Z.isinstance PyProof.Rows.boot_isinstance (pa_cons (pv 0) (pa_cons (pe_tup (pa_cons (pe_bltn (v := V.ty "list") rfl Z.list PyProof.Rows.boot_list rfl) (pa_cons (pe_bltn (v := V.ty "tuple") rfl Z.tuple PyProof.Rows.boot_tuple rfl) pa_nil))) pa_nil)))) (pe_lcI (own := [("_law_bit", 1)]) (g := gName 1) (tt := tYes) rfl sc_law_lists.nd (k_both K (pv 0)) (blkOk_by (own := [("_law_bit", 1)]) (N := ["_law_matter", "_law_bit"]) (sc := defScope (top 35)) (by decide +kernel)) (fun _ _ _ _ _ => pg_name (i := 1) sc_law_lists.nd rfl (Or.inl rfl)) (fun _ _ _ _ _ => pts_nil) (fun _ _ _ _ _ => (pe_has c_law_lists hr (by omega) rfl (pa_cons (pv 1) pa_nil)))) (pv 0)))), ?_⟩
    obtain ⟨v, t, rfl, r, d, q⟩ := h
    cases r with
    | node _ _ _ => exact absurd d (by show ¬ (_ + 1 ≤ 0); omega)
    | leaf hf =>
      refine ⟨v, rfl, by show 2 ≤ sizeLine; decide, fun p hp => ?_⟩
      refine isi_2 (K := K) _ (.leaf hf) rfl upd_same (leaf_no hf).1 (leaf_no hf).2 ?_
      refine ⟨false, rfl, iteF ?_⟩
      exact ⟨v, rfl, q v _ (same_new hp) (.leaf hf)⟩
  | n + 1 => by
    have c_law_lists := r_law_lists F Z n
    refine Has.mk0 F sc_law_lists (fun _ _ _ _ _ _ us hl => match us, hl with | [_], _ => rfl) (fun vs H Q E h => by first | (obtain ⟨rfl, _⟩ := h; rfl) | (obtain ⟨_, rfl, _⟩ := h; rfl) | (obtain ⟨_, _, rfl, _⟩ := h; rfl) | (obtain ⟨_, _, _, rfl, _⟩ := h; rfl) | (obtain ⟨_, _, _, _, rfl, _⟩ := h; rfl) | (obtain ⟨_, _, _, _, _, rfl, _⟩ := h; rfl) | (obtain ⟨_, _, _, _, _, _, rfl, _⟩ := h; rfl) | (obtain ⟨_, _, _, _, _, _, _, rfl, _⟩ := h; rfl)) fun f cdv A outer s H vs Q E hr h => ?_
    refine ⟨_, (pss_one (ps_ret (pe_ifExp (pt_val (pe_callB (k_isiT K) rfl Z.isinstance PyProof.Rows.boot_isinstance (pa_cons (pv 0) (pa_cons (pe_tup (pa_cons (pe_bltn (v := V.ty "list") rfl Z.list PyProof.Rows.boot_list rfl) (pa_cons (pe_bltn (v := V.ty "tuple") rfl Z.tuple PyProof.Rows.boot_tuple rfl) pa_nil))) pa_nil)))) (pe_lcI (own := [("_law_bit", 1)]) (g := gName 1) (tt := tYes) rfl sc_law_lists.nd (k_both K (pv 0)) (blkOk_by (own := [("_law_bit", 1)]) (N := ["_law_matter", "_law_bit"]) (sc := defScope (top 35)) (by decide +kernel)) (fun _ _ _ _ _ => pg_name (i := 1) sc_law_lists.nd rfl (Or.inl rfl)) (fun _ _ _ _ _ => pts_nil) (fun _ _ _ _ _ => (pe_has c_law_lists hr (by omega) rfl (pa_cons (pv 1) pa_nil)))) (pv 0)))), ?_⟩
    obtain ⟨v, t, rfl, r, d, q⟩ := h
    cases r with
    | leaf hf =>
      refine ⟨v, rfl, by show 2 ≤ sizeLine; decide, fun p hp => ?_⟩
      refine isi_2 (K := K) _ (.leaf hf) rfl upd_same (leaf_no hf).1 (leaf_no hf).2 ?_
      refine ⟨false, rfl, iteF ?_⟩
      exact ⟨v, rfl, q v _ (same_new hp) (.leaf hf)⟩
    | @node l a xs ts ha hn ra =>
      refine ⟨.ref a, rfl, by show 2 ≤ sizeLine; decide, fun p hp => ?_⟩
      obtain ⟨b, b2, h1, h2, h3⟩ := node_yes l ts
      have s1 : Same H (upd H p (.tup [.ty "list", .ty "tuple"])) := same_new hp
      refine isi_2 (K := K) _ (Rp.node (s1 _ _ ha) hn (ra.mono s1)) rfl upd_same h1 h2 ?_
      rw [h3]
      refine ⟨true, rfl, iteT ?_⟩
      generalize hH1 : upd H p (.tup [.ty "list", .ty "tuple"]) = H1 at s1
      have ha1 := s1 _ _ ha
      have dts : ∀ t ∈ ts, dep t ≤ n := fun t ht => Nat.le_trans (deps_le ht) (by have d' : deps ts + 1 ≤ n + 1 := d; omega)
      have go : ∀ J : It, Runs J H1 xs → lcIn J (gName 1) tYes (tCall (sp_lists n) [] E0 (tCons (tVar 1) tNil)) [1] (L2.start ["_law_matter", "_law_bit"] [.ref a]) H1 Q := fun J rn => by
        refine lc_map rn (fun i y H => ∃ t, ts[i]? = some t ∧ Rp H y (conv true t)) (fun i y H H' s ⟨t, e, r⟩ => ⟨t, e, r.mono s⟩) ?_ (fun _ => by rfl) ?_ ?_
        · omega
        · intro i x H2 Q hi s k
          obtain ⟨t, ht, rt⟩ := ra.get hi
          exact ⟨x, rfl, x, t, rfl, rt.mono (s1.trans s), dts t (List.mem_of_getElem? ht), fun v H' s r => k v H' s ⟨t, ht, r⟩⟩
        · intro D ys H' hD s hy hl hR
          refine q _ _ (s1.trans s) ?_
          show Rp _ _ (.node true (convs true ts))
          rw [convs_eq]
          refine tree_of (conv true) (by rw [hl, ra.length]) (by omega) (nw_of (s1.free hD) hy) fun i y hi => ?_
          obtain ⟨t, e, r⟩ := hR i y hi
          exact ⟨t, e, r.mono (nw_back s1)⟩
      cases l with
      | true => exact ⟨.ref a, rfl, a, xs, rfl, .inl ⟨SqL.of ha1, go _ (runs_list (SqL.of ha1))⟩⟩
      | false => exact ⟨.ref a, rfl, a, xs, rfl, .inr ⟨SqT.of ha1, go _ (runs_tup (SqT.of ha1))⟩⟩
theorem h_law_lists (F : At K mg "_law_lists" 35) (Z : Free mg) : Has P w K mg base CX0 4 "_law_lists" ["_law_matter"] (sp_lists 3) := (r_law_lists F Z 3)
theorem sc_law_same : FnScope ["_law_got", "_law_due", "_law_mine", "_law_its"] ["_law_got", "_law_due"] (defScope (top 36)) := ⟨rfl, rfl, rfl, by decide +kernel, rfl, by decide +kernel, by decide +kernel⟩
structure RunsZ (J : It) (H : Hp) (xs ys : List V) : Prop where
  go : ∀ (i : Nat) (H' : Hp), i < xs.length → Same H H' → J.go i H'
  stop : ∀ H' : Hp, Same H H' → J.stop xs.length H'
  yld : ∀ (i : Nat) (H' : Hp) (v : V) (H'' : Hp), Same H H' → J.yld i H' v H'' → i < xs.length → ∃ T x y, v = .ref T ∧ H' T = none ∧ H'' = upd H' T (.tup [x, y]) ∧ xs[i]? = some x ∧ ys[i]? = some y
theorem runsZ_list {H : Hp} {a b : Addr} {xs ys : List V} (h : SqL K H a xs) (h2 : SqL K H b ys) (hl : xs.length = ys.length) : RunsZ (Itz K a b) H xs ys :=
  ⟨fun i H' hi s => ⟨xs, ys, _, _, s.seq h, s.seq h2, List.getElem?_eq_getElem hi, List.getElem?_eq_getElem (by omega)⟩, fun H' s => ⟨xs, ys, s.seq h, s.seq h2, .inl (Nat.le_refl _)⟩, fun i H' v H'' s y _ => by
    obtain ⟨T, x, y, e1, e2, e3, e4, e5⟩ := y
    exact ⟨T, x, y, e1, e2, e3, e4 _ (s.seq h), e5 _ (s.seq h2)⟩⟩
theorem runsZ_tup {H : Hp} {a b : Addr} {xs ys : List V} (h : SqT K H a xs) (h2 : SqT K H b ys) (hl : xs.length = ys.length) : RunsZ (RZ.ItzT K a b) H xs ys :=
  ⟨fun i H' hi s => ⟨xs, ys, _, _, same_t s h, same_t s h2, List.getElem?_eq_getElem hi, List.getElem?_eq_getElem (by omega)⟩, fun H' s => ⟨xs, ys, same_t s h, same_t s h2, .inl (Nat.le_refl _)⟩, fun i H' v H'' s y _ => by
    obtain ⟨T, x, y, e1, e2, e3, e4, e5⟩ := y
    exact ⟨T, x, y, e1, e2, e3, e4 _ (same_t s h), e5 _ (same_t s h2)⟩⟩
theorem lc_zip {J : It} {te : TE} {vs : List Nat} {σ : L2.St} {H : Hp} {Q : VK} {xs ys : List V} {j j2 : Nat} (rn : RunsZ J H xs ys) (hn : xs.length ≤ 10000)
    (hw : ∀ x y, wipe (((wipe σ vs).set j (some x)).set j2 (some y)) vs = wipe σ vs)
    (he : ∀ (i : Nat) (x y : V) (H2 : Hp) (Q : VK), xs[i]? = some x → ys[i]? = some y → Same H H2 → RetV (.bl true) H2 Q → te (((wipe σ vs).set j (some x)).set j2 (some y)) H2 Q)
    (k : ∀ D H', H D = none → Same H H' → H' D = some (.lst (List.replicate xs.length (.bl true))) → Q (.ref D) H') : lcIn J (gTup K 2 (gCons (gName j) (gCons (gName j2) gNil))) tYes te vs σ H Q := by
  refine lc_any xs.length (fun D i H' => H D = none ∧ Same H H' ∧ H' D = some (.lst (List.replicate i (.bl true)))) (fun D hD => ⟨hD, same_new hD, upd_same⟩) (fun D i H' hi p => rn.go i H' hi p.2.1) (fun D H' p => rn.stop H' p.2.1) ?_ ?_
  · rintro D i H' v H'' hi ⟨hD, s1, hy⟩ yl
    obtain ⟨T, x, y, rfl, hT, rfl, h1, h2⟩ := rn.yld i H' v H'' s1 yl hi
    have sT : Same H' (upd H' T (.tup [x, y])) := same_new hT
    refine ⟨T, [x, y], rfl, SqT.of upd_same, rfl, x, [y], rfl, y, [], rfl, rfl, hw x y, ?_⟩
    show te _ _ _
    refine he i x y _ _ h1 h2 (s1.trans sT) fun H4 s4 => ⟨_, s4 D _ (sT D _ hy), sz_lt (by rw [List.length_replicate]; omega), hD, same_mut ((s1.trans sT).trans s4) hD, ?_⟩
    rw [upd_same, List.replicate_succ']
  · rintro D H' ⟨hD, s1, hy⟩
    exact k D H' hD s1 hy
theorem leaf_more {v : V} (h : flatV v = true) : scal v v = true ∧ ∃ b1 b2 b3, kitB (tyT (.leaf v)) "bool" = some b1 ∧ kitB (tyT (.leaf v)) "str" = some b2 ∧ kitB (tyT (.leaf v)) "int" = some b3 ∧
    (decide (v = .non) = false → (b1 || b2) = false → b3 = true ∧ b1 = false) := by
  cases v with
  | non => exact ⟨rfl, false, false, false, by decide +kernel, by decide +kernel, by decide +kernel, by decide⟩
  | bl b => exact ⟨rfl, true, false, true, by show kitB "bool" "bool" = _; decide +kernel, by show kitB "bool" "str" = _; decide +kernel, by show kitB "bool" "int" = _; decide +kernel, fun _ h => by cases h⟩
  | int b => exact ⟨rfl, false, false, true, by show kitB "int" "bool" = _; decide +kernel, by show kitB "int" "str" = _; decide +kernel, by show kitB "int" "int" = _; decide +kernel, fun _ _ => ⟨rfl, rfl⟩⟩
  | str b => exact ⟨rfl, false, true, false, by show kitB "str" "bool" = _; decide +kernel, by show kitB "str" "str" = _; decide +kernel, by show kitB "str" "int" = _; decide +kernel, fun _ h => by cases h⟩
  | _ => cases h
theorem node_ty (l : Bool) (ts : List Tr) : ∃ b b2, kitB (tyT (.node l ts)) "list" = some b ∧ kitB (tyT (.node l ts)) "tuple" = some b2 ∧ (b || b2) = true := node_yes l ts
theorem r_law_same  (F : At K mg "_law_same" 36) (Z : Free mg) : ∀ n : Nat, Has P w K mg base CX0 (n + 1) "_law_same" ["_law_got", "_law_due"] (sp_same n)
  | 0 => by
    have c_law_same : Has P w K mg base CX0 0 "_law_same" ["_law_got", "_law_due"] sp_none := none_has F (fun _ _ _ _ _ _ us hl => match us, hl with | [_, _], _ => rfl)
    refine Has.mk0 F sc_law_same (fun _ _ _ _ _ _ us hl => match us, hl with | [_, _], _ => rfl) (fun vs H Q E h => by first | (obtain ⟨rfl, _⟩ := h; rfl) | (obtain ⟨_, rfl, _⟩ := h; rfl) | (obtain ⟨_, _, rfl, _⟩ := h; rfl) | (obtain ⟨_, _, _, rfl, _⟩ := h; rfl) | (obtain ⟨_, _, _, _, rfl, _⟩ := h; rfl) | (obtain ⟨_, _, _, _, _, rfl, _⟩ := h; rfl) | (obtain ⟨_, _, _, _, _, _, rfl, _⟩ := h; rfl) | (obtain ⟨_, _, _, _, _, _, _, rfl, _⟩ := h; rfl)) fun f cdv A outer s H vs Q E hr h => ?_
    refine ⟨_, (pss_cons (ps_if (pt_val (pe_callB (k_isiT K) rfl Z.isinstance PyProof.Rows.boot_isinstance (pa_cons (pv 1) (pa_cons (pe_tup (pa_cons (pe_bltn (v := V.ty "list") rfl Z.list PyProof.Rows.boot_list rfl) (pa_cons (pe_bltn (v := V.ty "tuple") rfl Z.tuple PyProof.Rows.boot_tuple rfl) pa_nil))) pa_nil)))) (pss_cons (ps_if (PW.pt (pw_or (pt_cmpR op_ne (pe_callB (k_isi K) rfl Z.isinstance PyProof.Rows.boot_isinstance (pa_cons (pv 0) (pa_cons (pe_bltn (v := V.ty "list") rfl Z.list PyProof.Rows.boot_list rfl) pa_nil))) (pe_callB (k_isi K) rfl Z.isinstance PyProof.Rows.boot_isinstance (pa_cons (pv 1) (pa_cons (pe_bltn (v := V.ty "list") rfl Z.list PyProof.Rows.boot_list rfl) pa_nil))) (nomark _)) (pw_or1 (pt_cmpR op_ne (pe_callB (k_isi K) rfl Z.isinstance PyProof.Rows.boot_isinstance (pa_cons (pv 0) (pa_cons (pe_bltn (v := V.ty "tuple") rfl Z.tuple PyProof.Rows.boot_tuple rfl) pa_nil))) (pe_callB (k_isi K) rfl Z.isinstance PyProof.Rows.boot_isinstance (pa_cons (pv 1) (pa_cons (pe_bltn (v := V.ty "tuple") rfl Z.tuple PyProof.Rows.boot_tuple rfl) pa_nil))) (nomark _))))) (pss_one (ps_ret pe_bl)) pss_nil)
      (pss_one (ps_ret (pe_and (pe_cmpR op_eq (pe_callB (k_len K) rfl Z.len PySem.boot_len (pa_cons (pv 0) pa_nil)) (pe_callB (k_len K) rfl Z.len PySem.boot_len (pa_cons (pv 1) pa_nil)) (nomark _)) (pe_one (pe_callB (k_all K) rfl Z.all PyProof.Rows.boot_all (pa_cons (pe_lcI (own := [("_law_mine", 2), ("_law_its", 3)]) (g := gTup K 2 (gCons (gName 2) (gCons (gName 3) gNil))) (tt := tYes) rfl sc_law_same.nd (RZ.pi_zipA rfl Z.zip (pa_cons (pv 0) (pa_cons (pv 1) pa_nil))) (blkOk_by (own := [("_law_mine", 2), ("_law_its", 3)]) (N := ["_law_got", "_law_due", "_law_mine", "_law_its"]) (sc := defScope (top 36)) (by decide +kernel)) (fun _ _ _ _ _ => pg_tup rfl (pgs_cons (pg_name (i := 2) sc_law_same.nd rfl (Or.inl rfl) (hf := Or.inr rfl)) (pgs_cons (pg_name (i := 3) sc_law_same.nd rfl (Or.inl rfl) (hf := Or.inr rfl)) pgs_nil))) (fun _ _ _ _ _ => pts_nil) (fun _ _ _ _ _ => (pe_has c_law_same hr (by omega) rfl (pa_cons (pv 2) (pa_cons (pv 3) pa_nil))))) pa_nil))))))) pss_nil)
      (pss_cons (ps_if (PW.pt (pw_or (pt_cmpR op_isN (pv 1) pe_non (nomark _)) (pw_or1 (pt_val (pe_callB (k_isiT K) rfl Z.isinstance PyProof.Rows.boot_isinstance (pa_cons (pv 1) (pa_cons (pe_tup (pa_cons (pe_bltn (v := V.ty "bool") rfl Z.bool PyProof.Rows.boot_bool rfl) (pa_cons (pe_bltn (v := V.ty "str") rfl Z.str PyProof.Rows.boot_str rfl) pa_nil))) pa_nil))))))) (pss_one (ps_ret (pe_and (pe_cmpR op_eq (pv 0) (pv 1) (nomark _)) (pe_and (pe_cmpR op_eq (pe_callB (k_isi K) rfl Z.isinstance PyProof.Rows.boot_isinstance (pa_cons (pv 0) (pa_cons (pe_bltn (v := V.ty "bool") rfl Z.bool PyProof.Rows.boot_bool rfl) pa_nil))) (pe_callB (k_isi K) rfl Z.isinstance PyProof.Rows.boot_isinstance (pa_cons (pv 1) (pa_cons (pe_bltn (v := V.ty "bool") rfl Z.bool PyProof.Rows.boot_bool rfl) pa_nil))) (nomark _)) (pe_one (pe_cmpR op_eq (pe_cmpR op_isN (pv 0) pe_non (nomark _)) (pe_cmpR op_isN (pv 1) pe_non (nomark _)) (nomark _))))))) pss_nil)
      (pss_one (ps_ret (pe_and (pe_callB (k_isi K) rfl Z.isinstance PyProof.Rows.boot_isinstance (pa_cons (pv 0) (pa_cons (pe_bltn (v := V.ty "int") rfl Z.int PyProof.Rows.boot_int rfl) pa_nil))) (pe_and (pe_not (pe_callB (k_isi K) rfl Z.isinstance PyProof.Rows.boot_isinstance (pa_cons (pv 0) (pa_cons (pe_bltn (v := V.ty "bool") rfl Z.bool PyProof.Rows.boot_bool rfl) pa_nil)))) (pe_one (pe_cmpR op_eq (pv 0) (pv 1) (nomark _))))))))), ?_⟩
    obtain ⟨v, u, t, rfl, r, r2, d, q⟩ := h
    cases r with
    | node _ _ _ => exact absurd d (by show ¬ (_ + 1 ≤ 0); omega)
    | leaf hf =>
      cases r2
      obtain ⟨hs, b1, b2, b3, k1, k2, k3, k4⟩ := leaf_more hf
      refine ⟨v, rfl, by show 2 ≤ sizeLine; decide, fun p hp => ?_⟩
      refine isi_2 (K := K) _ (.leaf hf) rfl upd_same (leaf_no hf).1 (leaf_no hf).2 ?_
      refine ⟨false, rfl, iteF ?_⟩
      have s1 : Same H (upd H p (.tup [.ty "list", .ty "tuple"])) := same_new hp
      generalize upd H p (.tup [.ty "list", .ty "tuple"]) = H1 at s1
      have one : ∀ H2, Same H H2 → ∀ D : Ends, D.rt = Q → tRet (tAndV (tOp rEq (tVar 0) (tVar 1)) (tAndV (tOp rEq (tCB (SIsi K) (tCons (tVar 0) (tCons (tC (.ty "bool")) tNil))) (tCB (SIsi K) (tCons (tVar 1) (tCons (tC (.ty "bool")) tNil))))
          (tOp rEq (tOp (fun x y H Q => y = .non ∧ Q (.bl (decide (x = .non))) H) (tVar 0) (tC .non)) (tOp (fun x y H Q => y = .non ∧ Q (.bl (decide (x = .non))) H) (tVar 1) (tC .non))))) D (L2.start ["_law_got", "_law_due", "_law_mine", "_law_its"] [v, v]) H2 := by
        intro H2 s2 D hD
        refine ⟨v, rfl, v, rfl, hs, true, congrArg V.bl (decide_eq_true rfl), iteT ?_⟩
        refine ⟨_, rfl, ?_⟩
        refine isi_t (K := K) _ (.leaf hf) rfl k1 ?_
        refine ⟨_, rfl, ?_⟩
        refine isi_t (K := K) _ (.leaf hf) rfl k1 ?_
        refine ⟨rfl, true, congrArg V.bl (decide_eq_true rfl), iteT ?_⟩
        refine ⟨v, rfl, rfl, v, rfl, rfl, rfl, ?_⟩
        rw [decide_eq_true rfl, hD]
        exact q _ s2
      refine ⟨v, rfl, rfl, _, rfl, ?_⟩
      cases hk : decide (v = V.non) with
      | true => exact iteT (iteT (one H1 s1 _ rfl))
      | false =>
        refine iteF ?_
        refine ⟨v, rfl, by show 2 ≤ sizeLine; decide, fun p2 hp2 => ?_⟩
        refine isi_2 (K := K) _ (.leaf hf) rfl upd_same k1 k2 ?_
        have s2 : Same H (upd H1 p2 (.tup [.ty "bool", .ty "str"])) := s1.trans (same_new hp2)
        generalize upd H1 p2 (.tup [.ty "bool", .ty "str"]) = H2 at s2
        refine ⟨_, rfl, ?_⟩
        cases hb : (b1 || b2) with
        | true => exact iteT (one H2 s2 _ rfl)
        | false =>
          refine iteF ?_
          obtain ⟨e3, e1⟩ := k4 hk hb
          refine ⟨_, rfl, ?_⟩
          refine isi_t (K := K) _ (.leaf hf) rfl k3 ?_
          refine ⟨true, congrArg V.bl e3, iteT ?_⟩
          refine ⟨_, rfl, ?_⟩
          refine isi_t (K := K) _ (.leaf hf) rfl k1 ?_
          refine ⟨b1, rfl, true, congrArg V.bl (by rw [e1]; rfl), iteT ?_⟩
          refine ⟨v, rfl, v, rfl, hs, ?_⟩
          rw [decide_eq_true rfl]
          exact q H2 s2
  | n + 1 => by
    have c_law_same := r_law_same F Z n
    refine Has.mk0 F sc_law_same (fun _ _ _ _ _ _ us hl => match us, hl with | [_, _], _ => rfl) (fun vs H Q E h => by first | (obtain ⟨rfl, _⟩ := h; rfl) | (obtain ⟨_, rfl, _⟩ := h; rfl) | (obtain ⟨_, _, rfl, _⟩ := h; rfl) | (obtain ⟨_, _, _, rfl, _⟩ := h; rfl) | (obtain ⟨_, _, _, _, rfl, _⟩ := h; rfl) | (obtain ⟨_, _, _, _, _, rfl, _⟩ := h; rfl) | (obtain ⟨_, _, _, _, _, _, rfl, _⟩ := h; rfl) | (obtain ⟨_, _, _, _, _, _, _, rfl, _⟩ := h; rfl)) fun f cdv A outer s H vs Q E hr h => ?_
    refine ⟨_, (pss_cons (ps_if (pt_val (pe_callB (k_isiT K) rfl Z.isinstance PyProof.Rows.boot_isinstance (pa_cons (pv 1) (pa_cons (pe_tup (pa_cons (pe_bltn (v := V.ty "list") rfl Z.list PyProof.Rows.boot_list rfl) (pa_cons (pe_bltn (v := V.ty "tuple") rfl Z.tuple PyProof.Rows.boot_tuple rfl) pa_nil))) pa_nil)))) (pss_cons (ps_if (PW.pt (pw_or (pt_cmpR op_ne (pe_callB (k_isi K) rfl Z.isinstance PyProof.Rows.boot_isinstance (pa_cons (pv 0) (pa_cons (pe_bltn (v := V.ty "list") rfl Z.list PyProof.Rows.boot_list rfl) pa_nil))) (pe_callB (k_isi K) rfl Z.isinstance PyProof.Rows.boot_isinstance (pa_cons (pv 1) (pa_cons (pe_bltn (v := V.ty "list") rfl Z.list PyProof.Rows.boot_list rfl) pa_nil))) (nomark _)) (pw_or1 (pt_cmpR op_ne (pe_callB (k_isi K) rfl Z.isinstance PyProof.Rows.boot_isinstance (pa_cons (pv 0) (pa_cons (pe_bltn (v := V.ty "tuple") rfl Z.tuple PyProof.Rows.boot_tuple rfl) pa_nil))) (pe_callB (k_isi K) rfl Z.isinstance PyProof.Rows.boot_isinstance (pa_cons (pv 1) (pa_cons (pe_bltn (v := V.ty "tuple") rfl Z.tuple PyProof.Rows.boot_tuple rfl) pa_nil))) (nomark _))))) (pss_one (ps_ret pe_bl)) pss_nil)
      (pss_one (ps_ret (pe_and (pe_cmpR op_eq (pe_callB (k_len K) rfl Z.len PySem.boot_len (pa_cons (pv 0) pa_nil)) (pe_callB (k_len K) rfl Z.len PySem.boot_len (pa_cons (pv 1) pa_nil)) (nomark _)) (pe_one (pe_callB (k_all K) rfl Z.all PyProof.Rows.boot_all (pa_cons (pe_lcI (own := [("_law_mine", 2), ("_law_its", 3)]) (g := gTup K 2 (gCons (gName 2) (gCons (gName 3) gNil))) (tt := tYes) rfl sc_law_same.nd (RZ.pi_zipA rfl Z.zip (pa_cons (pv 0) (pa_cons (pv 1) pa_nil))) (blkOk_by (own := [("_law_mine", 2), ("_law_its", 3)]) (N := ["_law_got", "_law_due", "_law_mine", "_law_its"]) (sc := defScope (top 36)) (by decide +kernel)) (fun _ _ _ _ _ => pg_tup rfl (pgs_cons (pg_name (i := 2) sc_law_same.nd rfl (Or.inl rfl) (hf := Or.inr rfl)) (pgs_cons (pg_name (i := 3) sc_law_same.nd rfl (Or.inl rfl) (hf := Or.inr rfl)) pgs_nil))) (fun _ _ _ _ _ => pts_nil) (fun _ _ _ _ _ => (pe_has c_law_same hr (by omega) rfl (pa_cons (pv 2) (pa_cons (pv 3) pa_nil))))) pa_nil))))))) pss_nil)
      (pss_cons (ps_if (PW.pt (pw_or (pt_cmpR op_isN (pv 1) pe_non (nomark _)) (pw_or1 (pt_val (pe_callB (k_isiT K) rfl Z.isinstance PyProof.Rows.boot_isinstance (pa_cons (pv 1) (pa_cons (pe_tup (pa_cons (pe_bltn (v := V.ty "bool") rfl Z.bool PyProof.Rows.boot_bool rfl) (pa_cons (pe_bltn (v := V.ty "str") rfl Z.str PyProof.Rows.boot_str rfl) pa_nil))) pa_nil))))))) (pss_one (ps_ret (pe_and (pe_cmpR op_eq (pv 0) (pv 1) (nomark _)) (pe_and (pe_cmpR op_eq (pe_callB (k_isi K) rfl Z.isinstance PyProof.Rows.boot_isinstance (pa_cons (pv 0) (pa_cons (pe_bltn (v := V.ty "bool") rfl Z.bool PyProof.Rows.boot_bool rfl) pa_nil))) (pe_callB (k_isi K) rfl Z.isinstance PyProof.Rows.boot_isinstance (pa_cons (pv 1) (pa_cons (pe_bltn (v := V.ty "bool") rfl Z.bool PyProof.Rows.boot_bool rfl) pa_nil))) (nomark _)) (pe_one (pe_cmpR op_eq (pe_cmpR op_isN (pv 0) pe_non (nomark _)) (pe_cmpR op_isN (pv 1) pe_non (nomark _)) (nomark _))))))) pss_nil)
      (pss_one (ps_ret (pe_and (pe_callB (k_isi K) rfl Z.isinstance PyProof.Rows.boot_isinstance (pa_cons (pv 0) (pa_cons (pe_bltn (v := V.ty "int") rfl Z.int PyProof.Rows.boot_int rfl) pa_nil))) (pe_and (pe_not (pe_callB (k_isi K) rfl Z.isinstance PyProof.Rows.boot_isinstance (pa_cons (pv 0) (pa_cons (pe_bltn (v := V.ty "bool") rfl Z.bool PyProof.Rows.boot_bool rfl) pa_nil)))) (pe_one (pe_cmpR op_eq (pv 0) (pv 1) (nomark _))))))))), ?_⟩
    obtain ⟨v, u, t, rfl, r, r2, d, q⟩ := h
    cases r with
    | leaf hf =>
      cases r2
      obtain ⟨hs, b1, b2, b3, k1, k2, k3, k4⟩ := leaf_more hf
      refine ⟨v, rfl, by show 2 ≤ sizeLine; decide, fun p hp => ?_⟩
      refine isi_2 (K := K) _ (.leaf hf) rfl upd_same (leaf_no hf).1 (leaf_no hf).2 ?_
      refine ⟨false, rfl, iteF ?_⟩
      have s1 : Same H (upd H p (.tup [.ty "list", .ty "tuple"])) := same_new hp
      generalize upd H p (.tup [.ty "list", .ty "tuple"]) = H1 at s1
      have one : ∀ H2, Same H H2 → ∀ D : Ends, D.rt = Q → tRet (tAndV (tOp rEq (tVar 0) (tVar 1)) (tAndV (tOp rEq (tCB (SIsi K) (tCons (tVar 0) (tCons (tC (.ty "bool")) tNil))) (tCB (SIsi K) (tCons (tVar 1) (tCons (tC (.ty "bool")) tNil))))
          (tOp rEq (tOp (fun x y H Q => y = .non ∧ Q (.bl (decide (x = .non))) H) (tVar 0) (tC .non)) (tOp (fun x y H Q => y = .non ∧ Q (.bl (decide (x = .non))) H) (tVar 1) (tC .non))))) D (L2.start ["_law_got", "_law_due", "_law_mine", "_law_its"] [v, v]) H2 := by
        intro H2 s2 D hD
        refine ⟨v, rfl, v, rfl, hs, true, congrArg V.bl (decide_eq_true rfl), iteT ?_⟩
        refine ⟨_, rfl, ?_⟩
        refine isi_t (K := K) _ (.leaf hf) rfl k1 ?_
        refine ⟨_, rfl, ?_⟩
        refine isi_t (K := K) _ (.leaf hf) rfl k1 ?_
        refine ⟨rfl, true, congrArg V.bl (decide_eq_true rfl), iteT ?_⟩
        refine ⟨v, rfl, rfl, v, rfl, rfl, rfl, ?_⟩
        rw [decide_eq_true rfl, hD]
        exact q _ s2
      refine ⟨v, rfl, rfl, _, rfl, ?_⟩
      cases hk : decide (v = V.non) with
      | true => exact iteT (iteT (one H1 s1 _ rfl))
      | false =>
        refine iteF ?_
        refine ⟨v, rfl, by show 2 ≤ sizeLine; decide, fun p2 hp2 => ?_⟩
        refine isi_2 (K := K) _ (.leaf hf) rfl upd_same k1 k2 ?_
        have s2 : Same H (upd H1 p2 (.tup [.ty "bool", .ty "str"])) := s1.trans (same_new hp2)
        generalize upd H1 p2 (.tup [.ty "bool", .ty "str"]) = H2 at s2
        refine ⟨_, rfl, ?_⟩
        cases hb : (b1 || b2) with
        | true => exact iteT (one H2 s2 _ rfl)
        | false =>
          refine iteF ?_
          obtain ⟨e3, e1⟩ := k4 hk hb
          refine ⟨_, rfl, ?_⟩
          refine isi_t (K := K) _ (.leaf hf) rfl k3 ?_
          refine ⟨true, congrArg V.bl e3, iteT ?_⟩
          refine ⟨_, rfl, ?_⟩
          refine isi_t (K := K) _ (.leaf hf) rfl k1 ?_
          refine ⟨b1, rfl, true, congrArg V.bl (by rw [e1]; rfl), iteT ?_⟩
          refine ⟨v, rfl, v, rfl, hs, ?_⟩
          rw [decide_eq_true rfl]
          exact q H2 s2
    | @node l a xs ts ha hn ra =>
      cases r2 with
      | @node _ c ys _ hc hm rc =>
      refine ⟨.ref c, rfl, by show 2 ≤ sizeLine; decide, fun p hp => ?_⟩
      obtain ⟨b, b2, h1, h2, h3⟩ := node_ty l ts
      have s1 : Same H (upd H p (.tup [.ty "list", .ty "tuple"])) := same_new hp
      have R1 := Rp.node (s1 _ _ ha) hn (ra.mono s1)
      have R2 := Rp.node (s1 _ _ hc) hm (rc.mono s1)
      refine isi_2 (K := K) _ R2 rfl upd_same h1 h2 ?_
      rw [h3]
      refine ⟨true, rfl, iteT ?_⟩
      generalize hH1 : upd H p (.tup [.ty "list", .ty "tuple"]) = H1 at s1 R1 R2
      -- the kinds
      refine ⟨_, rfl, ?_⟩
      refine isi_t (K := K) _ R1 rfl h1 ?_
      refine ⟨_, rfl, ?_⟩
      refine isi_t (K := K) _ R2 rfl h1 ?_
      refine ⟨rfl, _, rfl, ?_⟩
      rw [show (!decide (V.bl b = V.bl b)) = false by rw [decide_eq_true rfl]; rfl]
      refine iteF ?_
      refine ⟨_, rfl, ?_⟩
      refine isi_t (K := K) _ R1 rfl h2 ?_
      refine ⟨_, rfl, ?_⟩
      refine isi_t (K := K) _ R2 rfl h2 ?_
      refine ⟨rfl, _, rfl, ?_⟩
      rw [show (!decide (V.bl b2 = V.bl b2)) = false by rw [decide_eq_true rfl]; rfl]
      refine iteF ?_
      -- len, all
      have dts : ∀ t ∈ ts, dep t ≤ n := fun t ht => Nat.le_trans (deps_le ht) (by have d' : deps ts + 1 ≤ n + 1 := d; omega)
      have el : xs.length = ys.length := by rw [ra.length, rc.length]
      have go : ∀ J : It, RunsZ J H1 xs ys → lcIn J (gTup K 2 (gCons (gName 2) (gCons (gName 3) gNil))) tYes (tCall (sp_same n) [] E0 (tCons (tVar 2) (tCons (tVar 3) tNil))) [2, 3] (L2.start ["_law_got", "_law_due", "_law_mine", "_law_its"] [.ref a, .ref c]) H1 (fun x H2 => rAll K [x] H2 Q) := fun J rn => by
        refine lc_zip rn (by omega) (fun _ _ => by rfl) ?_ ?_
        · intro i x y H2 Q hi hi2 s k
          obtain ⟨t, ht, rt⟩ := ra.get hi
          obtain ⟨t', ht', rt'⟩ := rc.get hi2
          rw [ht] at ht'
          cases Option.some.inj ht'
          exact ⟨x, rfl, y, rfl, x, y, t, rfl, rt.mono (s1.trans s), rt'.mono (s1.trans s), dts t (List.mem_of_getElem? ht), k⟩
        · intro D H' hD s hy
          refine ⟨D, List.replicate xs.length true, rfl, SqL.of (by rw [hy, all_true]), ?_⟩
          rw [all_true2]
          exact q H' (s1.trans s)
      have hlen : decide (V.int (xs.length : Int) = V.int (ys.length : Int)) = true := by rw [el]; exact decide_eq_true rfl
      cases l with
      | true =>
        have ha1 := s1 _ _ ha
        have hc1 := s1 _ _ hc
        refine ⟨_, rfl, a, xs, rfl, .inl (SqL.of ha1), _, rfl, c, ys, rfl, .inl (SqL.of hc1), rfl, true, congrArg V.bl hlen, iteT ?_⟩
        exact ⟨_, rfl, _, rfl, a, c, xs, ys, rfl, .inl ⟨SqL.of ha1, SqL.of hc1, go _ (runsZ_list (SqL.of ha1) (SqL.of hc1) el)⟩⟩
      | false =>
        have ha1 := s1 _ _ ha
        have hc1 := s1 _ _ hc
        refine ⟨_, rfl, a, xs, rfl, .inr (SqT.of ha1), _, rfl, c, ys, rfl, .inr (SqT.of hc1), rfl, true, congrArg V.bl hlen, iteT ?_⟩
        exact ⟨_, rfl, _, rfl, a, c, xs, ys, rfl, .inr ⟨SqT.of ha1, SqT.of hc1, go _ (runsZ_tup (SqT.of ha1) (SqT.of hc1) el)⟩⟩
theorem h_law_same (F : At K mg "_law_same" 36) (Z : Free mg) : Has P w K mg base CX0 4 "_law_same" ["_law_got", "_law_due"] (sp_same 3) := (r_law_same F Z 3)
theorem sc_law_seat : FnScope ["_law_net", "_law_taken_so", "_law_k", "_law_near_so", "_law_far_so"] ["_law_net", "_law_taken_so", "_law_k"] (defScope (top 37)) := ⟨rfl, rfl, rfl, by decide +kernel, rfl, by decide +kernel, by decide +kernel⟩
theorem inV_ints (z : Int) (tk : List Int) : inV (.int z) (tk.map V.int) = decide (z ∈ tk) := by
  unfold inV
  rw [Bool.eq_iff_iff, decide_eq_true_iff, List.any_map, List.any_eq_true]
  constructor
  · rintro ⟨y, hy, e⟩
    have e2 : y = z := eq_of_beq (show (y == z) = true from e)
    rw [← e2]
    exact hy
  · intro h
    exact ⟨z, h, beq_self_eq_true z⟩
theorem ints_flat (tk : List Int) : (tk.map V.int).all flatV = true := by
  rw [List.all_map, List.all_eq_true]
  intro x _
  rfl
theorem h_law_seat (F : At K mg "_law_seat" 37) (Z : Free mg) : Has P w K mg base CX0 1 "_law_seat" ["_law_net", "_law_taken_so", "_law_k"] sp_lseat := by
  refine Has.mk0 F sc_law_seat (fun _ _ _ _ _ _ us hl => match us, hl with | [_, _, _], _ => rfl) (fun vs H Q E h => by first | (obtain ⟨rfl, _⟩ := h; rfl) | (obtain ⟨_, rfl, _⟩ := h; rfl) | (obtain ⟨_, _, rfl, _⟩ := h; rfl) | (obtain ⟨_, _, _, rfl, _⟩ := h; rfl) | (obtain ⟨_, _, _, _, rfl, _⟩ := h; rfl) | (obtain ⟨_, _, _, _, _, rfl, _⟩ := h; rfl) | (obtain ⟨_, _, _, _, _, _, rfl, _⟩ := h; rfl) | (obtain ⟨_, _, _, _, _, _, _, rfl, _⟩ := h; rfl)) fun f cdv A outer s H vs Q E hr h => ?_
  refine ⟨_, (pss_cons (ps_asg (pe_ix (k_ixT K) (pe_ix (k_ixT K) (pv 0) pe_int (fun _ _ => rfl)) (pv 2) (fun _ _ => rfl)) (pg_tup (by rfl) (pgs_cons (pg_name (i := 3) sc_law_seat.nd rfl (.inl rfl)) (pgs_cons (pg_name (i := 4) sc_law_seat.nd rfl (.inl rfl)) pgs_nil))))
      (pss_cons (ps_if (pt_cmpR (k_notIn K) (pv 3) (pv 1) rfl) (pss_one (ps_ret (pv 3))) pss_nil)
      (pss_one (ps_ret (pe_ifExp (pt_cmpR (k_notIn K) (pv 4) (pv 1) rfl) (pv 4) pe_non))))), ?_⟩
  obtain ⟨v, m, gs, l, tk, k, rfl, r, hl, hlt, q⟩ := h
  obtain ⟨a, b, ps, W⟩ := r.web
  obtain rfl := W.v
  obtain ⟨p, hp1, hp2⟩ := W.get hlt
  generalize gs.getD k (0, 0) = g at hp2 q
  refine ⟨.ref a, rfl, a, _, 1, _, rfl, rfl, SqT.of W.a, atI_nat (j := 1) rfl, nV k, rfl, b, ps, (k : Int), _, rfl, rfl, SqT.of W.b, atI_nat hp1, p, _, rfl, SqT.of hp2, rfl, _, _, rfl, _, _, rfl, rfl, ?_⟩
  refine ⟨_, rfl, _, rfl, l, _, rfl, .inl (SqL.of hl), rfl, ints_flat tk, _, rfl, ?_⟩
  rw [inV_ints]
  unfold seat at q
  by_cases h1 : g.1 ∈ tk
  · rw [if_pos h1] at q
    rw [decide_eq_true h1]
    refine iteF ?_
    refine ⟨_, rfl, _, rfl, l, _, rfl, .inl (SqL.of hl), rfl, ints_flat tk, _, rfl, ?_⟩
    rw [inV_ints]
    by_cases h2 : g.2 ∈ tk
    · rw [if_pos h2] at q
      rw [decide_eq_true h2]
      exact iteF q
    · rw [if_neg h2] at q
      rw [decide_eq_false h2]
      exact iteT ⟨_, rfl, q⟩
  · rw [if_neg h1] at q
    rw [decide_eq_false h1]
    exact iteT ⟨_, rfl, q⟩
theorem sc_law_run : FnScope ["_law_net", "_law_walk_here", "_law_seats", "_law_taken_so", "_law_k", "_law_own"] ["_law_net", "_law_walk_here"] (defScope (top 38)) := ⟨rfl, rfl, rfl, by decide +kernel, rfl, by decide +kernel, by decide +kernel⟩
theorem ix_of {n k : Nat} (h : k < n) : ixN n (k : Int) = some k := by
  have e : ((k : Int) < (n : Int)) = True := eq_true (by omega)
  simp [ixN, e]
theorem rep_non (n : Nat) : ([V.non] ++ []).length * n = n := by simp
theorem flat_rep : ∀ n : Nat, (List.replicate n [V.non]).flatten = (List.range n).map fun _ => V.non
  | 0 => rfl
  | n + 1 => by
    rw [List.replicate_succ, List.flatten_cons, flat_rep n, List.range_succ_eq_map, List.map_cons, List.map_map]
    rfl
theorem set_map {α : Type} (n k : Nat) (f : Nat → α) (x : α) : ((List.range n).map f).set k x = (List.range n).map fun j => if j = k then x else f j := by
  refine List.ext_getElem? fun i => ?_
  rw [List.getElem?_set, List.getElem?_map, List.getElem?_map, List.length_map, List.length_range]
  by_cases hk : k = i
  · subst hk
    rw [if_pos rfl]
    by_cases hn : k < n
    · rw [if_pos hn, List.getElem?_range hn]
      show some x = some (if k = k then x else f k)
      rw [if_pos rfl]
    · rw [if_neg hn, List.getElem?_eq_none (by rw [List.length_range]; omega)]
      rfl
  · rw [if_neg hk]
    by_cases hn : i < n
    · rw [List.getElem?_range hn]
      show some (f i) = some (if i = k then x else f i)
      rw [if_neg fun e => hk e.symm]
    · rw [List.getElem?_eq_none (by rw [List.length_range]; omega)]
      rfl
theorem run_len (gs : G) (row : List Nat) : (runS gs row).1.length ≤ row.length := by
  unfold runS
  suffices h : ∀ (st : List Int × (Nat → Option Int)), (row.foldl (stepS gs) st).1.length ≤ st.1.length + row.length by
    have := h ([], fun _ => none)
    simpa using this
  induction row with
  | nil => exact fun st => Nat.le_refl _
  | cons k row ih =>
    intro st
    have h1 := ih (stepS gs st k)
    have h2 : (stepS gs st k).1.length ≤ st.1.length + 1 := by
      show (st.1 ++ (seat (gs.getD k (0, 0)) st.1).toList).length ≤ _
      rw [List.length_append]
      cases seat (gs.getD k (0, 0)) st.1 with
      | none => exact Nat.le_succ _
      | some x => exact Nat.le_refl _
    rw [List.foldl_cons, List.length_cons]
    omega
theorem h_law_run (F : At K mg "_law_run" 38) (Z : Free mg) (c_law_seat : Has P w K mg base CX0 1 "_law_seat" ["_law_net", "_law_taken_so", "_law_k"] sp_lseat) : Has P w K mg base CX0 2 "_law_run" ["_law_net", "_law_walk_here"] sp_run := by
  refine Has.mk0 F sc_law_run (fun _ _ _ _ _ _ us hl => match us, hl with | [_, _], _ => rfl) (fun vs H Q E h => by first | (obtain ⟨rfl, _⟩ := h; rfl) | (obtain ⟨_, rfl, _⟩ := h; rfl) | (obtain ⟨_, _, rfl, _⟩ := h; rfl) | (obtain ⟨_, _, _, rfl, _⟩ := h; rfl) | (obtain ⟨_, _, _, _, rfl, _⟩ := h; rfl) | (obtain ⟨_, _, _, _, _, rfl, _⟩ := h; rfl) | (obtain ⟨_, _, _, _, _, _, rfl, _⟩ := h; rfl) | (obtain ⟨_, _, _, _, _, _, _, rfl, _⟩ := h; rfl)) fun f cdv A outer s H vs Q E hr h => ?_
  refine ⟨_, (pss_cons (ps_par (i := 2) (j := 3) (by rfl) sc_law_run.nd rfl rfl (by decide) rfl rfl (pa_cons (pe_op op_rep (pe_lst (pa_cons pe_non pa_nil)) (pe_callB (k_len K) rfl Z.len PySem.boot_len (pa_cons (pe_ix (k_ixT K) (pv 0) pe_int (fun _ _ => rfl)) pa_nil))) (pa_cons (pe_lst pa_nil) pa_nil)) (by rfl))
      (pss_cons (ps_for PassesOwn.never rfl (k_tup K (pv 1)) (pg_name (i := 4) sc_law_run.nd rfl (.inl rfl)) (pss_cons (ps_set (i := 5) sc_law_run.nd rfl (.inl rfl) (pe_has c_law_seat hr (by decide) rfl (pa_cons (pv 0) (pa_cons (pv 3) (pa_cons (pv 4) pa_nil)))))
      (pss_cons (ps_asg (pv 5) (pg_sub (pv 2) (pv 4) set_list))
      (pss_one (ps_if (pt_cmpR op_notN (pv 5) pe_non (nomark _)) (pss_one (ps_expr (pe_bm PySem.F.plainAttrs_list PySem.F.slot_list_append PySem.F.type_list_append mt_append (pv 3) (pa_cons (pv 5) pa_nil)))) pss_nil)))))
      (pss_one (ps_ret (pe_callTy (k_tupOf K) rfl Z.tuple PyProof.Rows.boot_tuple (pa_cons (pv 2) pa_nil)))))), ?_⟩
  obtain ⟨v, m, gs, ra, row, rfl, r, hg, hra, hlt, hn, q⟩ := h
  obtain ⟨a, b, ps, W⟩ := r.web
  obtain rfl := W.v
  have hpl := W.len
  refine ⟨by show 1 ≤ sizeLine; decide, fun l hl => ?_⟩
  have s1 : Same H (upd H l (.lst [.non])) := same_new hl
  have hl1 : upd H l (.lst [.non]) l = some (.lst [.non]) := upd_same
  show tCB _ _ _ (upd H l (.lst [.non])) _
  generalize upd H l (.lst [.non]) = H1 at s1 hl1
  refine ⟨_, rfl, a, _, 1, _, rfl, rfl, SqT.of (s1 _ _ W.a), atI_nat (j := 1) rfl, b, ps, rfl, .inr (SqT.of (s1 _ _ W.b)), ?_⟩
  refine ⟨l, _, _, rfl, rfl, hl1, by omega, by omega, sz_le (by rw [Int.toNat_natCast]; show 1 * ps.length ≤ 100000; omega), fun S hS => ?_⟩
  rw [Int.toNat_natCast, flat_rep, hpl]
  have s2 := s1.trans (same_new (o := .lst ((List.range gs.length).map fun _ => V.non)) hS)
  have hS0 := s1.free hS
  have hS1 : upd H1 S (.lst ((List.range gs.length).map fun _ => V.non)) S = some (.lst ((List.range gs.length).map fun _ => V.non)) := upd_same
  generalize upd H1 S (.lst ((List.range gs.length).map fun _ => V.non)) = H2 at s2 hS1
  refine ⟨by show 0 ≤ sizeLine; decide, fun T hT => ⟨_, _, rfl, ?_⟩⟩
  have hT0 := s2.free hT
  have hTS : T ≠ S := fun e => by rw [e, hS1] at hT; cases hT
  have s3 := s2.trans (same_new (o := .lst []) hT)
  have hS2 : upd H2 T (.lst []) S = some (.lst ((List.range gs.length).map fun _ => V.non)) := by rw [upd_ne hTS.symm]; exact hS1
  have hT1 : upd H2 T (.lst []) T = some (.lst []) := upd_same
  generalize upd H2 T (.lst []) = H3 at s3 hS2 hT1
  refine ⟨_, rfl, ra, rfl, ⟨_, SqT.of (s3 _ _ hra)⟩, ?_⟩
  refine for_tup (K := K) (a := ra) (xs := row.map nV) (fun i σ H' => ∃ x4 x5, σ = [some (.ref a), some (.ref ra), some (.ref S), some (.ref T), x4, x5] ∧ Same H H' ∧ H' S = some (.lst ((List.range gs.length).map fun j => oV ((runS gs (row.take i)).2 j))) ∧ H' T = some (.lst ((runS gs (row.take i)).1.map V.int))) ?_ ?_ ?_ ?_
  · exact ⟨none, none, rfl, s3, hS2, hT1⟩
  · rintro i σ H' _ ⟨x4, x5, _, s, _⟩
    exact SqT.of (s _ _ hra)
  · rintro i x σ H' hi ⟨x4, x5, rfl, s, h1, h2⟩
    obtain ⟨k, hk, rfl⟩ := nat_item hi
    have hk2 := hlt k (List.mem_of_getElem? hk)
    have hir := (List.getElem?_eq_some_iff.mp hk).1
    have er := run_more (gs := gs) hk
    have hlen := run_len gs (row.take i)
    rw [List.length_take] at hlen
    refine ⟨_, rfl, _, rfl, _, rfl, _, m, gs, T, (runS gs (row.take i)).1, k, rfl, r.mono s, h2, hk2, ?_⟩
    generalize hp : seat (gs.getD k (0, 0)) (runS gs (row.take i)).1 = p
    have e1 : (runS gs (row.take (i + 1))).1 = (runS gs (row.take i)).1 ++ p.toList := by rw [er, ← hp]; rfl
    have e2 : ∀ j, (runS gs (row.take (i + 1))).2 j = if j = k then p else (runS gs (row.take i)).2 j := fun j => by rw [er, ← hp]; rfl
    refine ⟨_, rfl, _, rfl, _, rfl, S, _, (k : Int), k, rfl, rfl, h1, ix_of (by rw [List.length_map, List.length_range]; exact hk2), ?_⟩
    have e3 : ((List.range gs.length).map fun j => oV ((runS gs (row.take i)).2 j)).set k (oV p) = (List.range gs.length).map fun j => oV ((runS gs (row.take (i + 1))).2 j) := by
      rw [set_map]
      refine List.map_congr_left fun j _ => ?_
      rw [e2]
      by_cases hj : j = k
      · rw [if_pos hj, if_pos hj]
      · rw [if_neg hj, if_neg hj]
    rw [e3]
    refine ⟨_, rfl, rfl, _, rfl, ?_⟩
    rw [oV_non]
    cases p with
    | none =>
      refine iteF ?_
      refine ⟨_, _, rfl, same_mut s hS0, upd_same, ?_⟩
      rw [upd_ne hTS, e1, show (none : Option Int).toList = [] from rfl, List.append_nil]
      exact h2
    | some z0 =>
      refine iteT ?_
      refine ⟨_, rfl, .inl ⟨rfl, _, SqL.of (by rw [upd_ne hTS]; exact h2)⟩, _, rfl, T, _, _, rfl, rfl, by rw [upd_ne hTS]; exact h2, sz_lt (by rw [List.length_map]; omega), ?_⟩
      refine ⟨_, _, rfl, same_mut (same_mut s hS0) hT0, by rw [upd_ne hTS.symm, upd_same], ?_⟩
      rw [upd_same, e1, List.map_append]
      rfl
  · rintro σ H' ⟨x4, x5, rfl, s, h1, h2⟩
    rw [List.length_map, List.take_length] at h1
    refine ⟨_, rfl, S, _, rfl, .inl ⟨SqL.of h1, fun p hp => ?_⟩⟩
    exact q _ _ (s.trans (same_new hp)) ⟨p, rfl, nw_of (s.free hp) upd_same⟩
theorem sc_law_walk : FnScope ["_law_tin", "_law_many_so"] ["_law_tin", "_law_many_so"] (defScope (top 39)) := ⟨rfl, rfl, rfl, by decide +kernel, rfl, by decide +kernel, by decide +kernel⟩
theorem range_ord {n : Nat} {xs : List V} (h : xs.Perm ((List.range n).map nV)) : ∃ row, Ord n row ∧ xs = row.map nV := by
  obtain ⟨row, e, p⟩ : ∃ row : List Nat, xs = row.map nV ∧ row.Perm (List.range n) := by
    have hm : ∀ x ∈ xs, ∃ k : Nat, x = nV k := fun x hx => by
      obtain ⟨k, _, e⟩ := List.mem_map.mp (h.mem_iff.mp hx)
      exact ⟨k, e.symm⟩
    obtain ⟨row, rfl⟩ : ∃ row : List Nat, xs = row.map nV := by
      clear h
      induction xs with
      | nil => exact ⟨[], rfl⟩
      | cons x xs ih =>
        obtain ⟨k, rfl⟩ := hm x List.mem_cons_self
        obtain ⟨row, rfl⟩ := ih fun y hy => hm y (List.mem_cons_of_mem _ hy)
        exact ⟨k :: row, rfl⟩
    refine ⟨row, rfl, ?_⟩
    have q := h.map fun v => match v with
      | V.int i => i.toNat
      | _ => 0
    rw [List.map_map, List.map_map] at q
    have e : ((fun v => match v with
      | V.int i => i.toNat
      | _ => 0) ∘ nV) = (id : Nat → Nat) := by
      funext k
      exact Int.toNat_natCast k
    rw [e, List.map_id, List.map_id] at q
    exact q
  refine ⟨row, ⟨p.nodup_iff.mpr List.nodup_range, fun k hk => List.mem_range.mp (p.mem_iff.mp hk), by rw [p.length_eq, List.length_range]⟩, e⟩
theorem rg_nV (n : Nat) : rgV 0 (n : Int) = (List.range n).map nV := by
  unfold rgV
  rw [show ((n : Int) - 0).toNat = n by omega]
  refine List.map_congr_left fun i _ => ?_
  show V.int (0 + (i : Int)) = V.int (i : Int)
  rw [Int.zero_add]
theorem h_law_walk (F : At K mg "_law_walk" 39) (Z : Free mg) (c_law_pick : Has P w K mg base CX0 2 "_law_pick" ["_law_tin", "_law_goods_so", "_law_count_so"] sp_pick) : Has P w K mg base CX0 3 "_law_walk" ["_law_tin", "_law_many_so"] sp_walk := by
  refine Has.mk0 F sc_law_walk (fun _ _ _ _ _ _ us hl => match us, hl with | [_, _], _ => rfl) (fun vs H Q E h => by first | (obtain ⟨rfl, _⟩ := h; rfl) | (obtain ⟨_, rfl, _⟩ := h; rfl) | (obtain ⟨_, _, rfl, _⟩ := h; rfl) | (obtain ⟨_, _, _, rfl, _⟩ := h; rfl) | (obtain ⟨_, _, _, _, rfl, _⟩ := h; rfl) | (obtain ⟨_, _, _, _, _, rfl, _⟩ := h; rfl) | (obtain ⟨_, _, _, _, _, _, rfl, _⟩ := h; rfl) | (obtain ⟨_, _, _, _, _, _, _, rfl, _⟩ := h; rfl)) fun f cdv A outer s H vs Q E hr h => ?_
  refine ⟨_, (pss_one (ps_ret (pe_callTy (k_tupOf K) rfl Z.tuple PyProof.Rows.boot_tuple (pa_cons (pe_has c_law_pick hr (by decide) rfl (pa_cons (pv 0) (pa_cons (pe_listRg rfl rfl Z.list (prg_1 rfl Z.range (pv 1))) (pa_cons (pv 1) pa_nil)))) pa_nil)))), ?_⟩
  obtain ⟨t, m, n, rfl, tin, hm, hn, q⟩ := h
  refine ⟨_, rfl, _, rfl, (n : Int), rfl, RgOk.of_le (by omega) (by omega) (by omega) (by omega), fun g hg => ?_⟩
  rw [rg_nV]
  have s1 : Same H (upd H g (.lst ((List.range n).map nV))) := same_new hg
  have hgl : upd H g (.lst ((List.range n).map nV)) g = some (.lst ((List.range n).map nV)) := upd_same
  generalize upd H g (.lst ((List.range n).map nV)) = H1 at s1 hgl
  have hgt : g ≠ t := fun e => by
    obtain ⟨a, b, c, h, _⟩ := tin
    rw [← e, hg] at h
    cases h
  have tin1 : TinAt H1 t m := by
    obtain ⟨a, b, c, h, r⟩ := tin
    exact ⟨a, b, c, s1 _ _ h, r⟩
  refine ⟨_, rfl, t, g, m, (n : Int), _, rfl, tin1, hm, hgl, hgt, by simp; omega, ⟨by omega, by omega⟩, fun p ys rest H2 pm hl sb tin2 hp1 hp2 => ?_⟩
  have er : rest = [] := by
    have h1 := pm.length_eq
    rw [List.length_append, List.length_map, List.length_range] at h1
    rw [List.length_map, List.length_range, Int.toNat_natCast, Nat.min_self] at hl
    exact List.length_eq_zero_iff.mp (by omega)
  subst er
  rw [List.append_nil] at pm
  obtain ⟨row, ho, rfl⟩ := range_ord pm
  refine ⟨p, _, rfl, .inl ⟨SqL.of hp2, fun l hl => ?_⟩⟩
  have hlt : l ≠ t := fun e => by
    obtain ⟨a, b, c, h, _⟩ := tin2
    rw [← e, hl] at h
    cases h
  have hl0 : H l = none := by
    cases e : H l with
    | none => rfl
    | some o =>
      have := sb l o hlt (s1 _ _ e)
      rw [hl] at this
      cases this
  refine q l row _ ho (fun b o hb e => ?_) ?_ hl0 upd_same
  · have bl : b ≠ l := fun h => by rw [h, hl0] at e; cases e
    rw [upd_ne bl]
    exact sb _ _ hb (s1 _ _ e)
  · obtain ⟨a, b, c, h, r⟩ := tin2
    exact ⟨a, b, c, by rw [upd_ne hlt.symm]; exact h, r⟩
theorem sc_law_off : FnScope ["_law_walk_here", "_law_k", "_law_own"] ["_law_walk_here", "_law_k"] (defScope (top 40)) := ⟨rfl, rfl, rfl, by decide +kernel, rfl, by decide +kernel, by decide +kernel⟩

theorem h_law_off (F : At K mg "_law_off" 40) (Z : Free mg) : Has P w K mg base CX0 1 "_law_off" ["_law_walk_here", "_law_k"] sp_off := by
  refine Has.mk0 F sc_law_off (fun _ _ _ _ _ _ us hl => match us, hl with | [_, _], _ => rfl) (fun vs H Q E h => by first | (obtain ⟨rfl, _⟩ := h; rfl) | (obtain ⟨_, rfl, _⟩ := h; rfl) | (obtain ⟨_, _, rfl, _⟩ := h; rfl) | (obtain ⟨_, _, _, rfl, _⟩ := h; rfl) | (obtain ⟨_, _, _, _, rfl, _⟩ := h; rfl) | (obtain ⟨_, _, _, _, _, rfl, _⟩ := h; rfl) | (obtain ⟨_, _, _, _, _, _, rfl, _⟩ := h; rfl) | (obtain ⟨_, _, _, _, _, _, _, rfl, _⟩ := h; rfl)) fun f cdv A outer s H vs Q E hr h => ?_
  refine ⟨_, (pss_one (ps_ret (pe_callTy (k_tupOf K) rfl Z.tuple PyProof.Rows.boot_tuple (pa_cons (pe_lcI (own := [("_law_own", 2)]) (g := gName 2)  rfl sc_law_off.nd (k_tup K (pv 0)) (blkOk_by (own := [("_law_own", 2)]) (N := ["_law_walk_here", "_law_k", "_law_own"]) (sc := defScope (top 40)) (by decide +kernel)) (fun _ _ _ _ _ => pg_name (i := 2) sc_law_off.nd rfl (Or.inl rfl)) (fun _ _ _ _ _ => (pts_one (pt_cmpR op_ne (pv 2) (pv 1) (nomark _)))) (fun _ _ _ _ _ => (pv 2))) pa_nil)))), ?_⟩
  obtain ⟨r, row, k, rfl, hr2, hn, q⟩ := h
  refine ⟨_, rfl, r, rfl, ⟨_, SqT.of hr2⟩, ?_⟩
  refine lc_flt (l := row) (X := nV) (runs_tup (SqT.of hr2)) (fun j => decide (j ≠ k)) (by omega) (fun _ => by rfl) (fun _ => by rfl) ?_ ?_
  · intro a H2 Q ha s kq
    refine ⟨_, rfl, _, rfl, rfl, _, rfl, ?_⟩
    have e : (!decide (nV a = nV k)) = decide (a ≠ k) := by rw [nV_eq, decide_not]
    have z := kq H2 (Same.refl _)
    rw [← e] at z
    exact z
  · intro D H' hD s hy
    refine ⟨D, _, rfl, .inl ⟨SqL.of hy, fun p hp => ?_⟩⟩
    exact q _ _ (s.trans (same_new hp)) ⟨p, rfl, nw_of (s.free hp) upd_same⟩
theorem sc_law_busy_net : FnScope ["_law_tin", "_law_places_so", "_law_guests_so", "_law_many_so", "_law_lap"] ["_law_tin", "_law_places_so", "_law_guests_so"] (defScope (top 41)) := ⟨rfl, rfl, rfl, by decide +kernel, rfl, by decide +kernel, by decide +kernel⟩
theorem two_of {n : Nat} {ys rest : List V} (h : (ys ++ rest).Perm ((List.range n).map nV)) (hl : ys.length = 2) : ∃ a b : Nat, ys = [nV a, nV b] ∧ a < n ∧ b < n ∧ a ≠ b := by
  obtain ⟨row, ho, e⟩ := range_ord h
  match ys, hl with
  | [x, y], _ =>
    match row, ho, e with
    | [], _, e => cases e
    | [_], _, e => cases e
    | a :: b :: r, ho, e =>
      have e1 : x :: y :: rest = nV a :: nV b :: r.map nV := e
      injection e1 with e1 e2
      injection e2 with e2 e3
      refine ⟨a, b, by rw [e1, e2], ho.lt a (by simp), ho.lt b (by simp), fun e => ?_⟩
      have q := ho.nd
      rw [e] at q
      simp at q
theorem h_law_busy_net (F : At K mg "_law_busy_net" 41) (Z : Free mg) (c_law_take : Has P w K mg base CX0 1 "_law_take" ["_law_tin", "_law_below_so"] sp_take) (c_law_pick : Has P w K mg base CX0 2 "_law_pick" ["_law_tin", "_law_goods_so", "_law_count_so"] sp_pick) : Has P w K mg base CX0 3 "_law_busy_net" ["_law_tin", "_law_places_so", "_law_guests_so"] sp_busy := by
  refine Has.mk0 F sc_law_busy_net (fun _ _ _ _ _ _ us hl => match us, hl with | [_, _, _], _ => rfl) (fun vs H Q E h => by first | (obtain ⟨rfl, _⟩ := h; rfl) | (obtain ⟨_, rfl, _⟩ := h; rfl) | (obtain ⟨_, _, rfl, _⟩ := h; rfl) | (obtain ⟨_, _, _, rfl, _⟩ := h; rfl) | (obtain ⟨_, _, _, _, rfl, _⟩ := h; rfl) | (obtain ⟨_, _, _, _, _, rfl, _⟩ := h; rfl) | (obtain ⟨_, _, _, _, _, _, rfl, _⟩ := h; rfl) | (obtain ⟨_, _, _, _, _, _, _, rfl, _⟩ := h; rfl)) fun f cdv A outer s H vs Q E hr h => ?_
  refine ⟨_, (pss_cons (ps_set (i := 3) sc_law_busy_net.nd rfl (.inr rfl) (pe_op op_add pe_int (pe_has c_law_take hr (by decide) rfl (pa_cons (pv 0) (pa_cons (pe_op op_sub (pv 1) pe_int) pa_nil)))))
      (pss_one (ps_ret (pe_tup (pa_cons (pv 3) (pa_cons (pe_callTy (k_tupOf K) rfl Z.tuple PyProof.Rows.boot_tuple (pa_cons (pe_lcI (own := [("_law_lap", 4)]) (g := gName 4) (tt := tYes) rfl sc_law_busy_net.nd (pi_range1 rfl Z.range (pa_cons (pe_op op_add pe_int (pe_has c_law_take hr (by decide) rfl (pa_cons (pv 0) (pa_cons (pv 2) pa_nil)))) pa_nil)) (blkOk_by (own := [("_law_lap", 4)]) (N := ["_law_tin", "_law_places_so", "_law_guests_so", "_law_many_so", "_law_lap"]) (sc := defScope (top 41)) (by decide +kernel)) (fun _ _ _ _ _ => pg_name (i := 4) sc_law_busy_net.nd rfl (Or.inl rfl)) (fun _ _ _ _ _ => pts_nil) (fun _ _ _ _ _ => (pe_callTy (k_tupOf K) rfl Z.tuple PyProof.Rows.boot_tuple (pa_cons (pe_has c_law_pick hr (by decide) rfl (pa_cons (pv 0) (pa_cons (pe_listRg rfl rfl Z.list (prg_1 rfl Z.range (pv 3))) (pa_cons pe_int pa_nil)))) pa_nil)))) pa_nil)) pa_nil)))))), ?_⟩
  obtain ⟨t, m, rfl, tin, hm, q⟩ := h
  refine ⟨_, rfl, _, rfl, 6, 1, rfl, rfl, t, m, _, rfl, tin, by omega, ⟨by decide, by decide⟩, fun z H1 hz sb1 fr1 tin1 => ?_⟩
  obtain ⟨M, eM⟩ : ∃ M : Nat, 2 + z = (M : Int) := ⟨(2 + z).toNat, by omega⟩
  refine ⟨2, z, rfl, rfl, ?_⟩
  dsimp only
  rw [eM]
  have hM : 2 ≤ M ∧ M ≤ 6 := by omega
  refine ⟨_, rfl, _, rfl, _, rfl, t, m + 1, 7, rfl, tin1, by omega, ⟨by decide, by decide⟩, fun z2 H2 hz2 sb2 fr2 tin2 => ?_⟩
  refine ⟨1, z2, rfl, rfl, _, rfl, by omega, by omega, ?_⟩
  obtain ⟨n, en⟩ : ∃ n : Nat, (1 + z2).toNat = n := ⟨_, rfl⟩
  rw [en]
  have hn : 1 ≤ n ∧ n ≤ 7 := by omega
  have sb := sb1.trans sb2
  refine lc_any n (fun D i H' => H2 D = none ∧ SameB t H2 H' ∧ TinAt H' t (m + 2 + 100 * i) ∧ ∃ (ys : List V) (gs : G), H' D = some (.lst ys) ∧ ys.length = i ∧ RpAll (nw (upd H2 D (.lst [])) H') ys (gs.map (pairT false)) ∧ ∀ g ∈ gs, (0 ≤ g.1 ∧ g.1 ≤ (M : Int) - 1) ∧ (0 ≤ g.2 ∧ g.2 ≤ (M : Int) - 1) ∧ g.1 ≠ g.2) ?_ ?_ ?_ ?_ ?_
  · intro D hD
    exact ⟨hD, same_b (same_new hD) t, (tin2.put (tin2.ne hD)).le (by omega), [], [], upd_same, rfl, .nil, fun g hg => by cases hg⟩
  · intro D i H' hi _
    exact hi
  · intro D H' _
    exact Nat.le_refl _
  · rintro D i H' x H'' hi ⟨hD, s, tin', ys, gs, hy, hl, hR, hg⟩ ⟨rfl, rfl⟩
    have hDt := tin2.ne hD
    refine ⟨rfl, ?_⟩
    refine ⟨_, rfl, _, rfl, _, rfl, RgOk.of_le (by omega) (by omega) (by omega) (by omega), fun g hg0 => ?_⟩
    rw [rg_nV]
    have s1 : Same H'' (upd H'' g (.lst ((List.range M).map nV))) := same_new hg0
    have hgl : upd H'' g (.lst ((List.range M).map nV)) g = some (.lst ((List.range M).map nV)) := upd_same
    have hgt := tin'.ne hg0
    generalize upd H'' g (.lst ((List.range M).map nV)) = H3 at s1 hgl
    refine ⟨t, g, _, 2, _, rfl, tin'.keep s1, by omega, hgl, hgt, by simp; omega, ⟨by decide, by decide⟩, fun p zs rest H4 pm hzl sb4 tin4 hp1 hp2 => ?_⟩
    obtain ⟨a, b, rfl, ha, hb, hab⟩ := two_of pm (by rw [hzl, List.length_map, List.length_range]; show min 2 M = 2; omega)
    refine ⟨p, _, rfl, .inl ⟨SqL.of hp2, fun r hr => ?_⟩⟩
    have s34 : SameB t H'' (upd H4 r (.tup [nV a, nV b])) := ((same_b s1 t).trans sb4).trans (same_b (same_new hr) t)
    have tin5 := tin4.put (o := .tup [nV a, nV b]) (tin4.ne hr)
    have hr1 : upd H4 r (.tup [nV a, nV b]) r = some (.tup [nV a, nV b]) := upd_same
    have hr0 : H'' r = none := (same_b s1 t).trans sb4 |>.fr tin4 hr
    generalize upd H4 r (.tup [nV a, nV b]) = H5 at s34 tin5 hr1
    have hrD : r ≠ D := fun e => by rw [e, hy] at hr0; cases hr0
    have hr2 : H2 r = none := s.fr tin' hr0
    have XD : ∃ o, upd H2 D (.lst []) D = some o := ⟨_, upd_same⟩
    have Xt : ∃ o, upd H2 D (.lst []) t = some o := by
      obtain ⟨o, h⟩ := tin2.some
      exact ⟨o, by rw [upd_ne hDt.symm]; exact h⟩
    refine ⟨ys, s34 _ _ hDt hy, sz_lt (by omega), hD, (s.trans s34).put hD, (tin5.put hDt).le (by push_cast; omega), ys ++ [.ref r], gs ++ [((a : Int), (b : Int))], upd_same, by rw [List.length_append, hl]; rfl, ?_, ?_⟩
    · rw [List.map_append]
      refine (hR.mono ((keepT Xt s34).trans (keepD XD))).append (.cons ?_ .nil)
      refine pair_rp (g := ((a : Int), (b : Int))) (nw_of ?_ ?_)
      · rw [upd_ne hrD]
        exact hr2
      · rw [upd_ne hrD]
        exact hr1
    · intro g' hg'
      rcases List.mem_append.mp hg' with h | h
      · exact hg g' h
      · cases List.mem_singleton.mp h
        exact ⟨⟨by omega, by omega⟩, ⟨by omega, by omega⟩, fun e => hab (by have : (a : Int) = b := e; omega)⟩
  · rintro D H' ⟨hD, s, tin', ys, gs, hy, hl, hR, hg⟩
    refine ⟨D, _, rfl, .inl ⟨SqL.of hy, fun r hr => ?_⟩⟩
    have s1 : SameB t H (upd H' r (.tup ys)) := (sb.trans s).trans (same_b (same_new hr) t)
    have tin3 := tin'.put (o := .tup ys) (tin'.ne hr)
    have hgl : gs.length = n := by rw [← hl, hR.length, List.length_map]
    have hr0 : H r = none := (sb.trans s).fr tin' hr
    have hrD : ∀ b o, nw (upd H2 D (.lst [])) H' b = some o → nw H (upd H' r (.tup ys)) b = some o := fun b o e => by
      obtain ⟨e1, e2⟩ := of_nw e
      have bD : b ≠ D := fun h => by rw [h, upd_same] at e1; cases e1
      rw [upd_ne bD] at e1
      exact nw_of (sb.fr tin2 e1) (by rw [upd_ne (ne_of_none e2 hr)]; exact e2)
    have R1 : Rp (nw H (upd H' r (.tup ys))) (.ref r) (.node false (gs.map (pairT false))) := .node (nw_of hr0 upd_same) (by omega) (hR.mono hrD)
    have hr1 : upd H' r (.tup ys) r = some (.tup ys) := upd_same
    generalize upd H' r (.tup ys) = H3 at s1 tin3 R1 hr1
    refine ⟨by show 2 ≤ sizeLine; decide, fun w hw => ?_⟩
    have hw0 : H w = none := s1.fr tin3 hw
    refine q _ (M : Int) gs _ ⟨by omega, hg, by omega⟩ ⟨by omega, by omega⟩ (s1.put hw0) ((tin3.put (tin3.ne hw)).le (by omega)) ?_
    exact .node (nw_of hw0 upd_same) (by show 2 ≤ 1000; decide) (.cons (.leaf rfl) (.cons (R1.mono (nw_fwd (same_new hw))) .nil))
theorem sc_law_row_net : FnScope [] [] (defScope (top 42)) := ⟨rfl, rfl, rfl, by decide +kernel, rfl, by decide +kernel, by decide +kernel⟩

theorem h_law_row_net (F : At K mg "_law_row_net" 42) (Z : Free mg) : Has P w K mg base CX0 1 "_law_row_net" [] sp_row_net := by
  refine Has.mk0 F sc_law_row_net (fun _ _ _ _ _ _ us hl => match us, hl with | [], _ => rfl) (fun vs H Q E h => by first | (obtain ⟨rfl, _⟩ := h; rfl) | (obtain ⟨_, rfl, _⟩ := h; rfl) | (obtain ⟨_, _, rfl, _⟩ := h; rfl) | (obtain ⟨_, _, _, rfl, _⟩ := h; rfl) | (obtain ⟨_, _, _, _, rfl, _⟩ := h; rfl) | (obtain ⟨_, _, _, _, _, rfl, _⟩ := h; rfl) | (obtain ⟨_, _, _, _, _, _, rfl, _⟩ := h; rfl) | (obtain ⟨_, _, _, _, _, _, _, rfl, _⟩ := h; rfl)) fun f cdv A outer s H vs Q E hr h => ?_
  refine ⟨_, (pss_one (ps_ret (pe_tup (pa_cons pe_int (pa_cons (pe_tup (pa_cons (pe_tup (pa_cons pe_int (pa_cons pe_int pa_nil))) (pa_cons (pe_tup (pa_cons pe_int (pa_cons pe_int pa_nil))) (pa_cons (pe_tup (pa_cons pe_int (pa_cons pe_int pa_nil))) (pa_cons (pe_tup (pa_cons pe_int (pa_cons pe_int pa_nil))) pa_nil))))) pa_nil))))), ?_⟩
  obtain ⟨rfl, q⟩ := h
  have s := Same.refl H
  refine (ev_tup s (eva_cons ev_c (eva_cons (ev_tup s (eva_cons (ev_tup s (eva_cons ev_c (eva_cons ev_c eva_nil))) (eva_cons (ev_tup s (eva_cons ev_c (eva_cons ev_c eva_nil))) (eva_cons (ev_tup s (eva_cons ev_c (eva_cons ev_c eva_nil))) (eva_cons (ev_tup s (eva_cons ev_c (eva_cons ev_c eva_nil))) eva_nil))))) eva_nil))) H _ s fun v H' s1 r => q v H' s1 r
theorem sc_law_round_net : FnScope [] [] (defScope (top 43)) := ⟨rfl, rfl, rfl, by decide +kernel, rfl, by decide +kernel, by decide +kernel⟩

theorem h_law_round_net (F : At K mg "_law_round_net" 43) (Z : Free mg) : Has P w K mg base CX0 1 "_law_round_net" [] sp_round_net := by
  refine Has.mk0 F sc_law_round_net (fun _ _ _ _ _ _ us hl => match us, hl with | [], _ => rfl) (fun vs H Q E h => by first | (obtain ⟨rfl, _⟩ := h; rfl) | (obtain ⟨_, rfl, _⟩ := h; rfl) | (obtain ⟨_, _, rfl, _⟩ := h; rfl) | (obtain ⟨_, _, _, rfl, _⟩ := h; rfl) | (obtain ⟨_, _, _, _, rfl, _⟩ := h; rfl) | (obtain ⟨_, _, _, _, _, rfl, _⟩ := h; rfl) | (obtain ⟨_, _, _, _, _, _, rfl, _⟩ := h; rfl) | (obtain ⟨_, _, _, _, _, _, _, rfl, _⟩ := h; rfl)) fun f cdv A outer s H vs Q E hr h => ?_
  refine ⟨_, (pss_one (ps_ret (pe_tup (pa_cons pe_int (pa_cons (pe_tup (pa_cons (pe_tup (pa_cons pe_int (pa_cons pe_int pa_nil))) (pa_cons (pe_tup (pa_cons pe_int (pa_cons pe_int pa_nil))) (pa_cons (pe_tup (pa_cons pe_int (pa_cons pe_int pa_nil))) (pa_cons (pe_tup (pa_cons pe_int (pa_cons pe_int pa_nil))) (pa_cons (pe_tup (pa_cons pe_int (pa_cons pe_int pa_nil))) pa_nil)))))) pa_nil))))), ?_⟩
  obtain ⟨rfl, q⟩ := h
  have s := Same.refl H
  refine (ev_tup s (eva_cons ev_c (eva_cons (ev_tup s (eva_cons (ev_tup s (eva_cons ev_c (eva_cons ev_c eva_nil))) (eva_cons (ev_tup s (eva_cons ev_c (eva_cons ev_c eva_nil))) (eva_cons (ev_tup s (eva_cons ev_c (eva_cons ev_c eva_nil))) (eva_cons (ev_tup s (eva_cons ev_c (eva_cons ev_c eva_nil))) (eva_cons (ev_tup s (eva_cons ev_c (eva_cons ev_c eva_nil))) eva_nil)))))) eva_nil))) H _ s fun v H' s1 r => q v H' s1 r
theorem sc_law_helped : FnScope ["_law_net", "_law_walk_here", "_law_k", "_law_near", "_law_far", "_law_own"] ["_law_net", "_law_walk_here", "_law_k"] (defScope (top 44)) := ⟨rfl, rfl, rfl, by decide +kernel, rfl, by decide +kernel, by decide +kernel⟩

theorem h_law_helped (F : At K mg "_law_helped" 44) (Z : Free mg) (c_law_run : Has P w K mg base CX0 2 "_law_run" ["_law_net", "_law_walk_here"] sp_run) (c_law_off : Has P w K mg base CX0 1 "_law_off" ["_law_walk_here", "_law_k"] sp_off) : Has P w K mg base CX0 3 "_law_helped" ["_law_net", "_law_walk_here", "_law_k"] sp_lhelped := by
  refine Has.mk0 F sc_law_helped (fun _ _ _ _ _ _ us hl => match us, hl with | [_, _, _], _ => rfl) (fun vs H Q E h => by first | (obtain ⟨rfl, _⟩ := h; rfl) | (obtain ⟨_, rfl, _⟩ := h; rfl) | (obtain ⟨_, _, rfl, _⟩ := h; rfl) | (obtain ⟨_, _, _, rfl, _⟩ := h; rfl) | (obtain ⟨_, _, _, _, rfl, _⟩ := h; rfl) | (obtain ⟨_, _, _, _, _, rfl, _⟩ := h; rfl) | (obtain ⟨_, _, _, _, _, _, rfl, _⟩ := h; rfl) | (obtain ⟨_, _, _, _, _, _, _, rfl, _⟩ := h; rfl)) fun f cdv A outer s H vs Q E hr h => ?_
  refine ⟨_, (pss_cons (ps_asg (pe_tup (pa_cons (pe_has c_law_run hr (by decide) rfl (pa_cons (pv 0) (pa_cons (pv 1) pa_nil))) (pa_cons (pe_has c_law_run hr (by decide) rfl (pa_cons (pv 0) (pa_cons (pe_has c_law_off hr (by decide) rfl (pa_cons (pv 1) (pa_cons (pv 2) pa_nil))) pa_nil))) pa_nil))) (pg_tup (by rfl) (pgs_cons (pg_name (i := 3) sc_law_helped.nd rfl (.inr rfl)) (pgs_cons (pg_name (i := 4) sc_law_helped.nd rfl (.inr rfl)) pgs_nil))))
      (pss_one (ps_ret (pe_lcI (own := [("_law_own", 5)]) (g := gName 5)  rfl sc_law_helped.nd (k_tup K (pe_has c_law_off hr (by decide) rfl (pa_cons (pv 1) (pa_cons (pv 2) pa_nil)))) (blkOk_by (own := [("_law_own", 5)]) (N := ["_law_net", "_law_walk_here", "_law_k", "_law_near", "_law_far", "_law_own"]) (sc := defScope (top 44)) (by decide +kernel)) (fun _ _ _ _ _ => pg_name (i := 5) sc_law_helped.nd rfl (Or.inl rfl)) (fun _ _ _ _ _ => (pts_one (PW.pt (pw_and (pt_cmpR op_isN (pe_ix (k_ixT K) (pv 3) (pv 5) (fun _ _ => rfl)) pe_non (nomark _)) (pw_and1 (pt_cmpR op_notN (pe_ix (k_ixT K) (pv 4) (pv 5) (fun _ _ => rfl)) pe_non (nomark _))))))) (fun _ _ _ _ _ => (pv 5)))))), ?_⟩
  obtain ⟨v, m, gs, ra, row, k, rfl, r, hg, hra, ho, q⟩ := h
  have hn : row.length ≤ 1000 := by rw [ho.len]; exact hg
  refine ⟨v, rfl, _, rfl, v, m, gs, ra, row, rfl, r, hg, hra, ho.lt, hn, fun x1 H1 s1 h1 => ?_⟩
  obtain ⟨p1, rfl, hp1⟩ := h1
  refine ⟨v, rfl, _, rfl, _, rfl, ra, row, k, rfl, s1 _ _ hra, hn, fun x2 H2 s2 h2 => ?_⟩
  obtain ⟨o1, rfl, ho1⟩ := h2
  have s02 := s1.trans s2
  have hol := off_len row k
  refine ⟨v, m, gs, o1, off row k, rfl, r.mono s02, hg, (of_nw ho1).2, fun j hj => ho.lt j (off_mem hj), by omega, fun x3 H3 s3 h3 => ?_⟩
  obtain ⟨p2, rfl, hp2⟩ := h3
  have s03 := s02.trans s3
  have s13 := s2.trans s3
  refine ⟨by show 2 ≤ sizeLine; decide, fun T hT => ?_⟩
  have sT : Same H3 (upd H3 T (.tup [.ref p1, .ref p2])) := same_new hT
  refine ⟨T, _, rfl, SqT.of upd_same, rfl, _, _, rfl, _, _, rfl, rfl, ?_⟩
  have hp1' := sT _ _ (s13 _ _ (of_nw hp1).2)
  have hp2' := sT _ _ (of_nw hp2).2
  have s04 := s03.trans sT
  generalize upd H3 T (.tup [.ref p1, .ref p2]) = H4 at hp1' hp2' s04
  refine ⟨_, rfl, _, rfl, ra, row, k, rfl, s04 _ _ hra, hn, fun x5 H5 s5 h5 => ?_⟩
  obtain ⟨o2, rfl, ho2⟩ := h5
  have ho2' := (of_nw ho2).2
  have s05 := s04.trans s5
  refine ⟨o2, rfl, ⟨_, SqT.of ho2'⟩, ?_⟩
  refine lc_flt (l := off row k) (X := nV) (runs_tup (SqT.of ho2')) (fun j => (own gs row j).isNone && (own gs (off row k) j).isSome) (by omega) (fun _ => by rfl) (fun _ => by rfl) ?_ ?_
  · intro j H6 Q hj s6 kq
    have hjl : j < gs.length := ho.lt j (off_mem hj)
    refine ⟨_, rfl, _, rfl, p1, _, (j : Int), _, rfl, rfl, SqT.of (s6 _ _ (s5 _ _ hp1')), atI_nat (tk_get hjl), rfl, _, rfl, ?_⟩
    rw [oV_non]
    cases e : (own gs row j).isNone with
    | false =>
      refine iteD rfl ?_
      have z := kq H6 (Same.refl _)
      rw [e, Bool.false_and] at z
      exact z
    | true =>
      refine iteC rfl ?_
      refine ⟨_, rfl, _, rfl, p2, _, (j : Int), _, rfl, rfl, SqT.of (s6 _ _ (s5 _ _ hp2')), atI_nat (tk_get hjl), rfl, _, rfl, ?_⟩
      rw [oV_non]
      have z := kq H6 (Same.refl _)
      rw [e, Bool.true_and] at z
      rw [show (!(own gs (off row k) j).isNone) = (own gs (off row k) j).isSome by cases own gs (off row k) j <;> rfl]
      exact z
  · intro D H' hD s hy
    exact q _ _ (s05.trans s) ⟨D, rfl, nw_of (s05.free hD) hy⟩
theorem sc_law_heard : FnScope ["_law_net", "_law_walk_here", "_law_k", "error"] ["_law_net", "_law_walk_here", "_law_k"] (defScope (top 45)) := ⟨rfl, rfl, rfl, by decide +kernel, rfl, by decide +kernel, by decide +kernel⟩

theorem h_law_heard (F : At K mg "_law_heard" 45) (Z : Free mg) (c_helpers : Has P w K mg base (L2.CX P w) 7 "helpers" ["web", "order", "guest"] (sp_helpers C)) (T : CanNotIs K mg C) : Has P w K mg base CX0 8 "_law_heard" ["_law_net", "_law_walk_here", "_law_k"] sp_heard := by
  refine Has.mk0 F sc_law_heard (fun _ _ _ _ _ _ us hl => match us, hl with | [_, _, _], _ => rfl) (fun vs H Q E h => by first | (obtain ⟨rfl, _⟩ := h; rfl) | (obtain ⟨_, rfl, _⟩ := h; rfl) | (obtain ⟨_, _, rfl, _⟩ := h; rfl) | (obtain ⟨_, _, _, rfl, _⟩ := h; rfl) | (obtain ⟨_, _, _, _, rfl, _⟩ := h; rfl) | (obtain ⟨_, _, _, _, _, rfl, _⟩ := h; rfl) | (obtain ⟨_, _, _, _, _, _, rfl, _⟩ := h; rfl) | (obtain ⟨_, _, _, _, _, _, _, rfl, _⟩ := h; rfl)) fun f cdv A outer s H vs Q E hr h => ?_
  refine ⟨_, (pss_one (ps_try_as (i := 3) (Wout := fun _ _ _ _ => False) (tb := t_heard C) (ts := t_heardS K C) rfl rfl sc_law_heard.nd rfl rfl ⟨rfl, by decide, Or.inl T.g⟩ takes0
        (fun W pn xe tk _ => (pss_one (ps_ret (pe_hasS c_helpers hr (by decide) rfl (fun σ => passAt tk σ) (pa_cons (pv 0) (pa_cons (pv 1) (pa_cons (pv 2) pa_nil)))))))
        (fun a oe cls d pn hz hf => (pss_one (ps_ret (pe_lst (pa_cons pe_str (pa_cons (pe_callB (k_isE K T.e hz hf) rfl Z.isinstance PyProof.Rows.boot_isinstance (pa_cons (pv 3) (pa_cons (pe_bltn (v := V.ty "ValueError") rfl Z.ValueError (by decide +kernel) rfl) pa_nil))) pa_nil)))))))), ?_⟩
  obtain ⟨v, u, m, gs, row, k, rfl, wa, oa, hk, q⟩ := h
  refine ⟨v, rfl, u, rfl, _, rfl, v, u, m, gs, row, k, rfl, wa, oa, hk, fun e x H1 s1 hx => ?_, fun e H1 s1 => ?_⟩
  · obtain ⟨a, rfl, ha⟩ := hx
    have z := q (.ref a) H1 s1
    unfold heardT at z
    rw [if_pos e] at z
    exact z (row_rp ha (hps_len gs row k wa.wf.len))
  · refine ⟨true, T.m, fun _ a ha => ?_, fun h => Bool.noConfusion h⟩
    refine ⟨_, rfl, rfl, rfl, .ty "ValueError", .type "ValueError", true, rfl, fun x r => by cases r; rfl, T.v, ?_⟩
    refine ⟨by show 2 ≤ sizeLine; decide, fun p hp => ?_⟩
    have z := q (.ref p) _ (s1.trans (same_new (o := .lst [.str "cannot", .bl true]) hp))
    unfold heardT at z
    rw [if_neg e] at z
    exact z (.node (nw_of (s1.free hp) upd_same) (by show 2 ≤ 1000; decide) (.cons (.leaf rfl) (.cons (.leaf rfl) .nil)))
theorem sc_law_by_hand_right : FnScope ["_law_row_so", "_law_round_so", "_law_walk_here", "_law_late_so", "_law_pair_so", "_law_none_so", "_law_got", "_law_due", "_law_own"] [] (defScope (top 46)) := ⟨rfl, rfl, rfl, by decide +kernel, rfl, by decide +kernel, by decide +kernel⟩
def pairN : G := [(0, 1), (0, 1), (1, 0)]
def lastN : G := [(0, 1), (1, 0), (0, 1), (0, 1)]
theorem w_any (l : Bool) {m : Int} {gs : G} (h : Wf m gs) : TW (webT l m gs) m gs := ⟨dep_web l m gs, conv_web l false m gs, h⟩
theorem o_any (l : Bool) {n : Nat} {row : List Nat} (h : Ord n row) : TO (rowT l row) n row := ⟨Nat.le_trans (dep_row l row) (by decide), conv_row l false row, h⟩
theorem wf_row : Wf 5 rowN := ⟨by decide, by decide, by decide⟩
theorem wf_round : Wf 5 roundN := ⟨by decide, by decide, by decide⟩
theorem wf_pair : Wf 2 pairN := ⟨by decide, by decide, by decide⟩
theorem wf_last : Wf 2 lastN := ⟨by decide, by decide, by decide⟩
theorem wf_nil : Wf 3 [] := ⟨by decide, fun g h => (by cases h), by decide⟩
theorem or_row : Ord rowN.length [3, 2, 1, 0] := ⟨by decide, by decide, rfl⟩
theorem or_round : Ord roundN.length [3, 2, 1, 0, 4] := ⟨by decide, by decide, rfl⟩
theorem or_pair : Ord pairN.length [2, 0, 1] := ⟨by decide, by decide, rfl⟩
theorem or_last : Ord lastN.length [0, 1, 2, 3] := ⟨by decide, by decide, rfl⟩
theorem or_nil : Ord (([] : G)).length [] := ⟨by decide, by decide, rfl⟩
theorem hd_map (gs : G) (row : List Nat) (n : Nat) (os : List (Option Nat)) (h : (List.range n).map (hd1 gs row) = os) : ((List.range n).map fun i => Tr.leaf (optN (hd1 gs row i))) = os.map fun o => .leaf (optN o) := by
  rw [← h, List.map_map]
  rfl
theorem got_hd : [Tr.node true ((List.range 4).map fun i => Tr.leaf (optN (hd1 rowN [3, 2, 1, 0] i))), .node true ((List.range 5).map fun i => Tr.leaf (optN (hd1 roundN [3, 2, 1, 0, 4] i))), .node true ((List.range 3).map fun i => Tr.leaf (optN (hd1 pairN [2, 0, 1] i)))] =
    [.node true (List.replicate 4 [.leaf .non]).flatten, .node true [.leaf (.int 4), .leaf (.int 4), .leaf .non, .leaf (.int 4), .leaf .non], .node true [.leaf (.int 1), .leaf .non, .leaf (.int 1)]] := by
  rw [hd_map rowN [3, 2, 1, 0] 4 [none, none, none, none] (by decide +kernel), hd_map roundN [3, 2, 1, 0, 4] 5 [some 4, some 4, none, some 4, none] (by decide +kernel), hd_map pairN [2, 0, 1] 3 [some 1, none, some 1] (by decide +kernel)]
  rfl
theorem got_calm : [rowT false (calm rowN [3, 2, 1, 0]), rowT false (calm roundN [3, 2, 1, 0, 4]), rowT false (calm pairN [2, 0, 1]), rowT false (calm [] [])] =
    [.node false [.leaf (.int 0)], .node false [.leaf (.int 2), .leaf (.int 4)], .node false [.leaf (.int 1)], .node false []] := by
  rw [show calm rowN [3, 2, 1, 0] = [0] by decide +kernel, show calm roundN [3, 2, 1, 0, 4] = [2, 4] by decide +kernel, show calm pairN [2, 0, 1] = [1] by decide +kernel, show calm [] [] = [] by decide +kernel]
  rfl
theorem got_heard : [Tr.node true ((List.range 5).map fun i => heardT roundN [3, 2, 1, 0, 4] i), heardT pairN [2, 0, 1] 1, heardT lastN [0, 1, 2, 3] 3] =
    [.node true ((List.replicate 4 [cannotT]).flatten ++ [.node false [.leaf (.int 0), .leaf (.int 1), .leaf (.int 3)]]), .node false [.leaf (.int 0), .leaf (.int 2)], .node false []] := by
  have e : ((List.range 5).map fun i => heardT roundN [3, 2, 1, 0, 4] i) = [heardT roundN [3, 2, 1, 0, 4] 0, heardT roundN [3, 2, 1, 0, 4] 1, heardT roundN [3, 2, 1, 0, 4] 2, heardT roundN [3, 2, 1, 0, 4] 3, heardT roundN [3, 2, 1, 0, 4] 4] := rfl
  rw [e, heard_no (k := 0) (by decide +kernel), heard_no (k := 1) (by decide +kernel), heard_no (k := 2) (by decide +kernel), heard_no (k := 3) (by decide +kernel),
    heard_yes (k := 4) (by decide +kernel) [0, 1, 3] (by decide +kernel), heard_yes (gs := pairN) (by decide +kernel) [0, 2] (by decide +kernel), heard_yes (gs := lastN) (by decide +kernel) [] (by decide +kernel)]
  rfl
theorem got_kw : [Tr.leaf (optN (hd1 roundN [3, 2, 1, 0, 4] 0)), rowT false (hps roundN [3, 2, 1, 0, 4] 4), rowT false (calm rowN [3, 2, 1, 0])] =
    [.leaf (.int 4), .node false [.leaf (.int 0), .leaf (.int 1), .leaf (.int 3)], .node false [.leaf (.int 0)]] := by
  rw [show hd1 roundN [3, 2, 1, 0, 4] 0 = some 4 by decide +kernel, show hps roundN [3, 2, 1, 0, 4] 4 = [0, 1, 3] by decide +kernel, show calm rowN [3, 2, 1, 0] = [0] by decide +kernel]
  rfl
theorem RpAll.more {H : Hp} {vs : List V} {t : Tr} {ts : List Tr} (r : RpAll H vs (t :: ts)) : ∃ x xs, vs = x :: xs ∧ Rp H x t ∧ RpAll H xs ts := by
  cases r with
  | cons h r => exact ⟨_, _, rfl, h, r⟩
theorem rp_five {H : Hp} {v : V} {a b c d e : Tr} (r : Rp H v (.node false [a, b, c, d, e])) : ∃ p x0 x1 x2 x3 x4, v = .ref p ∧ H p = some (.tup [x0, x1, x2, x3, x4]) ∧ Rp H x0 a ∧ Rp H x1 b ∧ Rp H x2 c ∧ Rp H x3 d ∧ Rp H x4 e := by
  cases r with
  | node h _ r =>
    obtain ⟨x0, _, rfl, h0, r⟩ := r.more
    obtain ⟨x1, _, rfl, h1, r⟩ := r.more
    obtain ⟨x2, _, rfl, h2, r⟩ := r.more
    obtain ⟨x3, x4, rfl, h3, h4⟩ := r.two
    exact ⟨_, _, _, _, _, _, rfl, h, h0, h1, h2, h3, h4⟩
theorem h_law_by_hand_right (F : At K mg "_law_by_hand_right" 46) (Z : Free mg) (c_law_same : Has P w K mg base CX0 4 "_law_same" ["_law_got", "_law_due"] (sp_same 3)) (c_law_row_net : Has P w K mg base CX0 1 "_law_row_net" [] sp_row_net) (c_law_round_net : Has P w K mg base CX0 1 "_law_round_net" [] sp_round_net) (c_helped : Has P w K mg base CX0 7 "helped" ["web", "order", "guest"] sp_helped) (c_harmless : Has P w K mg base CX0 6 "harmless" ["web", "order"] sp_harmless) (c_law_heard : Has P w K mg base CX0 8 "_law_heard" ["_law_net", "_law_walk_here", "_law_k"] sp_heard) (c_helpers : Has P w K mg base (L2.CX P w) 7 "helpers" ["web", "order", "guest"] (sp_helpers C)) (c_law_lists : Has P w K mg base CX0 4 "_law_lists" ["_law_matter"] (sp_lists 3)) (kc_helped : KHas P w K mg base CX0 7 "helped" ["web", "order", "guest"] ["guest", "order", "web"] gRev sp_helped) (kc_helpers : KHas P w K mg base (L2.CX P w) 7 "helpers" ["web", "order", "guest"] ["guest", "order", "web"] gRev (sp_helpers C)) (kc_harmless : KHas P w K mg base CX0 6 "harmless" ["web", "order"] ["order", "web"] gRev sp_harmless) : Has P w K mg base CX0 9 "_law_by_hand_right" [] sp_by_hand := by
  refine Has.mk0 F sc_law_by_hand_right (fun _ _ _ _ _ _ us hl => match us, hl with | [], _ => rfl) (fun vs H Q E h => by first | (obtain ⟨rfl, _⟩ := h; rfl) | (obtain ⟨_, rfl, _⟩ := h; rfl) | (obtain ⟨_, _, rfl, _⟩ := h; rfl) | (obtain ⟨_, _, _, rfl, _⟩ := h; rfl) | (obtain ⟨_, _, _, _, rfl, _⟩ := h; rfl) | (obtain ⟨_, _, _, _, _, rfl, _⟩ := h; rfl) | (obtain ⟨_, _, _, _, _, _, rfl, _⟩ := h; rfl) | (obtain ⟨_, _, _, _, _, _, _, rfl, _⟩ := h; rfl)) fun f cdv A outer s H vs Q E hr h => ?_
  refine ⟨_, (pss_cons (ps_asg (pe_tup (pa_cons (pe_has0 c_law_row_net hr (by decide) rfl) (pa_cons (pe_has0 c_law_round_net hr (by decide) rfl) (pa_cons (pe_tup (pa_cons pe_int (pa_cons pe_int (pa_cons pe_int (pa_cons pe_int pa_nil))))) (pa_cons (pe_tup (pa_cons pe_int (pa_cons pe_int (pa_cons pe_int (pa_cons pe_int (pa_cons pe_int pa_nil)))))) (pa_cons (pe_tup (pa_cons pe_int (pa_cons (pe_tup (pa_cons (pe_tup (pa_cons pe_int (pa_cons pe_int pa_nil))) (pa_cons (pe_tup (pa_cons pe_int (pa_cons pe_int pa_nil))) (pa_cons (pe_tup (pa_cons pe_int (pa_cons pe_int pa_nil))) pa_nil)))) pa_nil))) pa_nil)))))) (pg_tup (by rfl) (pgs_cons (pg_name (i := 0) sc_law_by_hand_right.nd rfl (.inr rfl)) (pgs_cons (pg_name (i := 1) sc_law_by_hand_right.nd rfl (.inr rfl)) (pgs_cons (pg_name (i := 2) sc_law_by_hand_right.nd rfl (.inr rfl)) (pgs_cons (pg_name (i := 3) sc_law_by_hand_right.nd rfl (.inr rfl)) (pgs_cons (pg_name (i := 4) sc_law_by_hand_right.nd rfl (.inr rfl)) pgs_nil)))))))
      (pss_cons (ps_set (i := 5) sc_law_by_hand_right.nd rfl (.inl rfl) (pe_lst (pa_cons pe_str (pa_cons pe_bl pa_nil))))
      (pss_cons (ps_set (i := 6) sc_law_by_hand_right.nd rfl (.inl rfl) (pe_lst (pa_cons (pe_lcI (own := [("_law_own", 8)]) (g := gName 8) (tt := tYes) rfl sc_law_by_hand_right.nd (pi_range1 rfl Z.range (pa_cons pe_int pa_nil)) (blkOk_by (own := [("_law_own", 8)]) (N := ["_law_row_so", "_law_round_so", "_law_walk_here", "_law_late_so", "_law_pair_so", "_law_none_so", "_law_got", "_law_due", "_law_own"]) (sc := defScope (top 46)) (by decide +kernel)) (fun _ _ _ _ _ => pg_name (i := 8) sc_law_by_hand_right.nd rfl (Or.inl rfl)) (fun _ _ _ _ _ => pts_nil) (fun _ _ _ _ _ => (pe_has c_helped hr (by decide) rfl (pa_cons (pv 0) (pa_cons (pv 2) (pa_cons (pv 8) pa_nil)))))) (pa_cons (pe_lcI (own := [("_law_own", 8)]) (g := gName 8) (tt := tYes) rfl sc_law_by_hand_right.nd (pi_range1 rfl Z.range (pa_cons pe_int pa_nil)) (blkOk_by (own := [("_law_own", 8)]) (N := ["_law_row_so", "_law_round_so", "_law_walk_here", "_law_late_so", "_law_pair_so", "_law_none_so", "_law_got", "_law_due", "_law_own"]) (sc := defScope (top 46)) (by decide +kernel)) (fun _ _ _ _ _ => pg_name (i := 8) sc_law_by_hand_right.nd rfl (Or.inl rfl)) (fun _ _ _ _ _ => pts_nil) (fun _ _ _ _ _ => (pe_has c_helped hr (by decide) rfl (pa_cons (pv 1) (pa_cons (pv 3) (pa_cons (pv 8) pa_nil)))))) (pa_cons (pe_lcI (own := [("_law_own", 8)]) (g := gName 8) (tt := tYes) rfl sc_law_by_hand_right.nd (pi_range1 rfl Z.range (pa_cons pe_int pa_nil)) (blkOk_by (own := [("_law_own", 8)]) (N := ["_law_row_so", "_law_round_so", "_law_walk_here", "_law_late_so", "_law_pair_so", "_law_none_so", "_law_got", "_law_due", "_law_own"]) (sc := defScope (top 46)) (by decide +kernel)) (fun _ _ _ _ _ => pg_name (i := 8) sc_law_by_hand_right.nd rfl (Or.inl rfl)) (fun _ _ _ _ _ => pts_nil) (fun _ _ _ _ _ => (pe_has c_helped hr (by decide) rfl (pa_cons (pv 4) (pa_cons (pe_tup (pa_cons pe_int (pa_cons pe_int (pa_cons pe_int pa_nil)))) (pa_cons (pv 8) pa_nil)))))) pa_nil)))))
      (pss_cons (ps_set (i := 7) sc_law_by_hand_right.nd rfl (.inl rfl) (pe_lst (pa_cons (pe_op op_rep (pe_lst (pa_cons pe_non pa_nil)) pe_int) (pa_cons (pe_lst (pa_cons pe_int (pa_cons pe_int (pa_cons pe_non (pa_cons pe_int (pa_cons pe_non pa_nil)))))) (pa_cons (pe_lst (pa_cons pe_int (pa_cons pe_non (pa_cons pe_int pa_nil)))) pa_nil)))))
      (pss_cons (ps_set (i := 6) sc_law_by_hand_right.nd rfl (.inl rfl) (pe_op op_cat (pv 6) (pe_lst (pa_cons (pe_has c_harmless hr (by decide) rfl (pa_cons (pv 0) (pa_cons (pv 2) pa_nil))) (pa_cons (pe_has c_harmless hr (by decide) rfl (pa_cons (pv 1) (pa_cons (pv 3) pa_nil))) (pa_cons (pe_has c_harmless hr (by decide) rfl (pa_cons (pv 4) (pa_cons (pe_tup (pa_cons pe_int (pa_cons pe_int (pa_cons pe_int pa_nil)))) pa_nil))) (pa_cons (pe_has c_harmless hr (by decide) rfl (pa_cons (pe_tup (pa_cons pe_int (pa_cons (pe_tup pa_nil) pa_nil))) (pa_cons (pe_tup pa_nil) pa_nil))) pa_nil)))))))
      (pss_cons (ps_set (i := 7) sc_law_by_hand_right.nd rfl (.inl rfl) (pe_op op_cat (pv 7) (pe_lst (pa_cons (pe_tup (pa_cons pe_int pa_nil)) (pa_cons (pe_tup (pa_cons pe_int (pa_cons pe_int pa_nil))) (pa_cons (pe_tup (pa_cons pe_int pa_nil)) (pa_cons (pe_tup pa_nil) pa_nil)))))))
      (pss_cons (ps_set (i := 6) sc_law_by_hand_right.nd rfl (.inl rfl) (pe_op op_cat (pv 6) (pe_lst (pa_cons (pe_lcI (own := [("_law_own", 8)]) (g := gName 8) (tt := tYes) rfl sc_law_by_hand_right.nd (pi_range1 rfl Z.range (pa_cons pe_int pa_nil)) (blkOk_by (own := [("_law_own", 8)]) (N := ["_law_row_so", "_law_round_so", "_law_walk_here", "_law_late_so", "_law_pair_so", "_law_none_so", "_law_got", "_law_due", "_law_own"]) (sc := defScope (top 46)) (by decide +kernel)) (fun _ _ _ _ _ => pg_name (i := 8) sc_law_by_hand_right.nd rfl (Or.inl rfl)) (fun _ _ _ _ _ => pts_nil) (fun _ _ _ _ _ => (pe_has c_law_heard hr (by decide) rfl (pa_cons (pv 1) (pa_cons (pv 3) (pa_cons (pv 8) pa_nil)))))) (pa_cons (pe_has c_law_heard hr (by decide) rfl (pa_cons (pv 4) (pa_cons (pe_tup (pa_cons pe_int (pa_cons pe_int (pa_cons pe_int pa_nil)))) (pa_cons pe_int pa_nil)))) (pa_cons (pe_has c_law_heard hr (by decide) rfl (pa_cons (pe_tup (pa_cons pe_int (pa_cons (pe_tup (pa_cons (pe_tup (pa_cons pe_int (pa_cons pe_int pa_nil))) (pa_cons (pe_tup (pa_cons pe_int (pa_cons pe_int pa_nil))) (pa_cons (pe_tup (pa_cons pe_int (pa_cons pe_int pa_nil))) (pa_cons (pe_tup (pa_cons pe_int (pa_cons pe_int pa_nil))) pa_nil))))) pa_nil))) (pa_cons (pe_tup (pa_cons pe_int (pa_cons pe_int (pa_cons pe_int (pa_cons pe_int pa_nil))))) (pa_cons pe_int pa_nil)))) pa_nil))))))
      (pss_cons (ps_set (i := 7) sc_law_by_hand_right.nd rfl (.inl rfl) (pe_op op_cat (pv 7) (pe_lst (pa_cons (pe_op op_cat (pe_op op_rep (pe_lst (pa_cons (pv 5) pa_nil)) pe_int) (pe_lst (pa_cons (pe_tup (pa_cons pe_int (pa_cons pe_int (pa_cons pe_int pa_nil)))) pa_nil))) (pa_cons (pe_tup (pa_cons pe_int (pa_cons pe_int pa_nil))) (pa_cons (pe_tup pa_nil) pa_nil))))))
      (pss_cons (ps_set (i := 6) sc_law_by_hand_right.nd rfl (.inl rfl) (pe_op op_cat (pv 6) (pe_lst (pa_cons (pe_hasK kc_helped hr (by decide) rfl (pk_cons pe_int (pk_cons (pe_callTy (k_lstOf K) rfl Z.list PyProof.Rows.boot_list (pa_cons (pv 3) pa_nil)) (pk_cons (pe_has c_law_lists hr (by decide) rfl (pa_cons (pv 1) pa_nil)) pk_nil)))) (pa_cons (pe_hasKX kc_helpers hr (by decide) rfl (pk_cons pe_int (pk_cons (pe_callTy (k_lstOf K) rfl Z.list PyProof.Rows.boot_list (pa_cons (pv 3) pa_nil)) (pk_cons (pe_has c_law_lists hr (by decide) rfl (pa_cons (pv 1) pa_nil)) pk_nil)))) (pa_cons (pe_hasK kc_harmless hr (by decide) rfl (pk_cons (pe_callTy (k_lstOf K) rfl Z.list PyProof.Rows.boot_list (pa_cons (pv 2) pa_nil)) (pk_cons (pe_has c_law_lists hr (by decide) rfl (pa_cons (pv 0) pa_nil)) pk_nil))) pa_nil))))))
      (pss_one (ps_ret (pe_has c_law_same hr (by decide) rfl (pa_cons (pv 6) (pa_cons (pe_op op_cat (pv 7) (pe_lst (pa_cons pe_int (pa_cons (pe_tup (pa_cons pe_int (pa_cons pe_int (pa_cons pe_int pa_nil)))) (pa_cons (pe_tup (pa_cons pe_int pa_nil)) pa_nil))))) pa_nil)))))))))))))), ?_⟩
  obtain ⟨rfl, q⟩ := h
  have s := Same.refl H
  apply asg_ev (H0 := H)
  · exact ev_tup s (eva_cons ((evn_row rfl).ev s) (eva_cons ((evn_round rfl).ev s) (eva_cons (ev_tup s (eva_cons ev_c (eva_cons ev_c (eva_cons ev_c (eva_cons ev_c eva_nil))))) (eva_cons (ev_tup s (eva_cons ev_c (eva_cons ev_c (eva_cons ev_c (eva_cons ev_c (eva_cons ev_c eva_nil)))))) (eva_cons (ev_tup s (eva_cons ev_c (eva_cons (ev_tup s (eva_cons (ev_tup s (eva_cons ev_c (eva_cons ev_c eva_nil))) (eva_cons (ev_tup s (eva_cons ev_c (eva_cons ev_c eva_nil))) (eva_cons (ev_tup s (eva_cons ev_c (eva_cons ev_c eva_nil))) eva_nil)))) eva_nil))) eva_nil)))))
  intro v H1 s1 r
  obtain ⟨p, x0, x1, x2, x3, x4, rfl, hp, r0, r1, r2, r3, r4⟩ := rp_five r
  replace r2 : Rp (nw H H1) x2 (rowT false [3, 2, 1, 0]) := r2
  replace r3 : Rp (nw H H1) x3 (rowT false [3, 2, 1, 0, 4]) := r3
  replace r4 : Rp (nw H H1) x4 (webT false 2 pairN) := r4
  refine ⟨p, _, rfl, SqT.of (of_nw hp).2, rfl, _, _, rfl, _, _, rfl, _, _, rfl, _, _, rfl, _, _, rfl, rfl, ?_⟩
  try dsimp only
  apply set_ev (H0 := H)
  · exact ev_lst s1 (eva_cons ev_c (eva_cons ev_c eva_nil))
  intro v2 H2 t2 r5
  have s2 := s1.trans t2
  have r0 := r0.mono (nw_fwd t2)
  have r1 := r1.mono (nw_fwd t2)
  have r2 := r2.mono (nw_fwd t2)
  have r3 := r3.mono (nw_fwd t2)
  have r4 := r4.mono (nw_fwd t2)
  try dsimp only
  apply set_ev (H0 := H)
  · exact ev_lst s2 (eva_cons ((evn_lc 4 (fun i => .leaf (optN (hd1 rowN [3, 2, 1, 0] i))) fun i hi => evn_helped (H0 := H) (tw := webT false _ _) (tu := rowT false [3, 2, 1, 0]) (eva_cons (ev_var rfl r0) (eva_cons (ev_var rfl r2) (eva_cons (ev_var rfl (.leaf rfl)) eva_nil))) (w_any _ wf_row) (o_any _ or_row) hi).ev s2) (eva_cons ((evn_lc 5 (fun i => .leaf (optN (hd1 roundN [3, 2, 1, 0, 4] i))) fun i hi => evn_helped (H0 := H) (tw := webT false _ _) (tu := rowT false [3, 2, 1, 0, 4]) (eva_cons (ev_var rfl r1) (eva_cons (ev_var rfl r3) (eva_cons (ev_var rfl (.leaf rfl)) eva_nil))) (w_any _ wf_round) (o_any _ or_round) hi).ev s2) (eva_cons ((evn_lc 3 (fun i => .leaf (optN (hd1 pairN [2, 0, 1] i))) fun i hi => evn_helped (H0 := H) (tw := webT false _ _) (tu := rowT false [2, 0, 1]) (eva_cons (ev_var rfl r4) (eva_cons (ev_tup s2 (eva_cons ev_c (eva_cons ev_c (eva_cons ev_c eva_nil)))) (eva_cons (ev_var rfl (.leaf rfl)) eva_nil))) (w_any _ wf_pair) (o_any _ or_pair) hi).ev s2) eva_nil)))
  intro v3 H3 t3 r6
  have s3 := s2.trans t3
  have r0 := r0.mono (nw_fwd t3)
  have r1 := r1.mono (nw_fwd t3)
  have r2 := r2.mono (nw_fwd t3)
  have r3 := r3.mono (nw_fwd t3)
  have r4 := r4.mono (nw_fwd t3)
  have r5 := r5.mono (nw_fwd t3)
  rw [got_hd] at r6
  try dsimp only
  apply set_ev (H0 := H)
  · exact ev_lst s3 (eva_cons (ev_rep 4 s3 (ev_lst s3 (eva_cons ev_c eva_nil))) (eva_cons (ev_lst s3 (eva_cons ev_c (eva_cons ev_c (eva_cons ev_c (eva_cons ev_c (eva_cons ev_c eva_nil)))))) (eva_cons (ev_lst s3 (eva_cons ev_c (eva_cons ev_c (eva_cons ev_c eva_nil)))) eva_nil)))
  intro v4 H4 t4 r7
  have s4 := s3.trans t4
  have r0 := r0.mono (nw_fwd t4)
  have r1 := r1.mono (nw_fwd t4)
  have r2 := r2.mono (nw_fwd t4)
  have r3 := r3.mono (nw_fwd t4)
  have r4 := r4.mono (nw_fwd t4)
  have r5 := r5.mono (nw_fwd t4)
  have r6 := r6.mono (nw_fwd t4)
  try dsimp only
  apply set_ev (H0 := H)
  · exact ev_cat s4 (ev_var rfl r6) (ev_lst s4 (eva_cons ((evn_harmless (H0 := H) (tw := webT false _ _) (tu := rowT false [3, 2, 1, 0]) (eva_cons (ev_var rfl r0) (eva_cons (ev_var rfl r2) eva_nil)) (w_any _ wf_row) (o_any _ or_row)).ev s4) (eva_cons ((evn_harmless (H0 := H) (tw := webT false _ _) (tu := rowT false [3, 2, 1, 0, 4]) (eva_cons (ev_var rfl r1) (eva_cons (ev_var rfl r3) eva_nil)) (w_any _ wf_round) (o_any _ or_round)).ev s4) (eva_cons ((evn_harmless (H0 := H) (tw := webT false _ _) (tu := rowT false [2, 0, 1]) (eva_cons (ev_var rfl r4) (eva_cons (ev_tup s4 (eva_cons ev_c (eva_cons ev_c (eva_cons ev_c eva_nil)))) eva_nil)) (w_any _ wf_pair) (o_any _ or_pair)).ev s4) (eva_cons ((evn_harmless (H0 := H) (tw := webT false _ _) (tu := rowT false []) (eva_cons (ev_tup s4 (eva_cons ev_c (eva_cons (ev_tup s4 eva_nil) eva_nil))) (eva_cons (ev_tup s4 eva_nil) eva_nil)) (w_any _ wf_nil) (o_any _ or_nil)).ev s4) eva_nil)))))
  intro v5 H5 t5 r6
  have s5 := s4.trans t5
  have r0 := r0.mono (nw_fwd t5)
  have r1 := r1.mono (nw_fwd t5)
  have r2 := r2.mono (nw_fwd t5)
  have r3 := r3.mono (nw_fwd t5)
  have r4 := r4.mono (nw_fwd t5)
  have r5 := r5.mono (nw_fwd t5)
  have r7 := r7.mono (nw_fwd t5)
  rw [got_calm] at r6
  try dsimp only
  apply set_ev (H0 := H)
  · exact ev_cat s5 (ev_var rfl r7) (ev_lst s5 (eva_cons (ev_tup s5 (eva_cons ev_c eva_nil)) (eva_cons (ev_tup s5 (eva_cons ev_c (eva_cons ev_c eva_nil))) (eva_cons (ev_tup s5 (eva_cons ev_c eva_nil)) (eva_cons (ev_tup s5 eva_nil) eva_nil)))))
  intro v6 H6 t6 r7
  have s6 := s5.trans t6
  have r0 := r0.mono (nw_fwd t6)
  have r1 := r1.mono (nw_fwd t6)
  have r2 := r2.mono (nw_fwd t6)
  have r3 := r3.mono (nw_fwd t6)
  have r4 := r4.mono (nw_fwd t6)
  have r5 := r5.mono (nw_fwd t6)
  have r6 := r6.mono (nw_fwd t6)
  try dsimp only
  apply set_ev (H0 := H)
  · exact ev_cat s6 (ev_var rfl r6) (ev_lst s6 (eva_cons ((evn_lc 5 (fun i => heardT roundN [3, 2, 1, 0, 4] i) fun i hi => (evn_heard (k := i) (H0 := H) (tw := webT false _ _) (tu := rowT false [3, 2, 1, 0, 4]) (eva_cons (ev_var rfl r1) (eva_cons (ev_var rfl r3) (eva_cons (ev_var rfl (.leaf rfl)) eva_nil))) (w_any _ wf_round) (o_any _ or_round) hi)).ev s6) (eva_cons ((evn_heard (k := 1) (H0 := H) (tw := webT false _ _) (tu := rowT false [2, 0, 1]) (eva_cons (ev_var rfl r4) (eva_cons (ev_tup s6 (eva_cons ev_c (eva_cons ev_c (eva_cons ev_c eva_nil)))) (eva_cons ev_c eva_nil))) (w_any _ wf_pair) (o_any _ or_pair)).ev s6) (eva_cons ((evn_heard (k := 3) (H0 := H) (tw := webT false _ _) (tu := rowT false [0, 1, 2, 3]) (eva_cons (ev_tup s6 (eva_cons ev_c (eva_cons (ev_tup s6 (eva_cons (ev_tup s6 (eva_cons ev_c (eva_cons ev_c eva_nil))) (eva_cons (ev_tup s6 (eva_cons ev_c (eva_cons ev_c eva_nil))) (eva_cons (ev_tup s6 (eva_cons ev_c (eva_cons ev_c eva_nil))) (eva_cons (ev_tup s6 (eva_cons ev_c (eva_cons ev_c eva_nil))) eva_nil))))) eva_nil))) (eva_cons (ev_tup s6 (eva_cons ev_c (eva_cons ev_c (eva_cons ev_c (eva_cons ev_c eva_nil))))) (eva_cons ev_c eva_nil))) (w_any _ wf_last) (o_any _ or_last)).ev s6) eva_nil))))
  intro v7 H7 t7 r6
  have s7 := s6.trans t7
  have r0 := r0.mono (nw_fwd t7)
  have r1 := r1.mono (nw_fwd t7)
  have r2 := r2.mono (nw_fwd t7)
  have r3 := r3.mono (nw_fwd t7)
  have r4 := r4.mono (nw_fwd t7)
  have r5 := r5.mono (nw_fwd t7)
  have r7 := r7.mono (nw_fwd t7)
  rw [got_heard] at r6
  try dsimp only
  apply set_ev (H0 := H)
  · exact ev_cat s7 (ev_var rfl r7) (ev_lst s7 (eva_cons (ev_cat s7 (ev_rep 4 s7 (ev_lst s7 (eva_cons (ev_var rfl r5) eva_nil))) (ev_lst s7 (eva_cons (ev_tup s7 (eva_cons ev_c (eva_cons ev_c (eva_cons ev_c eva_nil)))) eva_nil))) (eva_cons (ev_tup s7 (eva_cons ev_c (eva_cons ev_c eva_nil))) (eva_cons (ev_tup s7 eva_nil) eva_nil))))
  intro v8 H8 t8 r7
  have s8 := s7.trans t8
  have r0 := r0.mono (nw_fwd t8)
  have r1 := r1.mono (nw_fwd t8)
  have r2 := r2.mono (nw_fwd t8)
  have r3 := r3.mono (nw_fwd t8)
  have r4 := r4.mono (nw_fwd t8)
  have r5 := r5.mono (nw_fwd t8)
  have r6 := r6.mono (nw_fwd t8)
  try dsimp only
  apply set_ev (H0 := H)
  · exact ev_cat s8 (ev_var rfl r6) (ev_lst s8 (eva_cons ((evn_helpedK (k := 0) (H0 := H) (tw := webT true _ _) (tu := rowT true [3, 2, 1, 0, 4]) (eva_cons ev_c (eva_cons (ev_listOf s8 (ev_var rfl r3)) (eva_cons ((evn_lists (H0 := H) (t := webT false _ _) (eva_cons (ev_var rfl r1) eva_nil) (dep_web _ _ _)).ev s8) eva_nil))) (w_any _ wf_round) (o_any _ or_round)).ev s8) (eva_cons ((evn_helpersK (k := 4) (H0 := H) (tw := webT true _ _) (tu := rowT true [3, 2, 1, 0, 4]) (eva_cons ev_c (eva_cons (ev_listOf s8 (ev_var rfl r3)) (eva_cons ((evn_lists (H0 := H) (t := webT false _ _) (eva_cons (ev_var rfl r1) eva_nil) (dep_web _ _ _)).ev s8) eva_nil))) (w_any _ wf_round) (o_any _ or_round)).ev s8) (eva_cons ((evn_harmlessK (H0 := H) (tw := webT true _ _) (tu := rowT true [3, 2, 1, 0]) (eva_cons (ev_listOf s8 (ev_var rfl r2)) (eva_cons ((evn_lists (H0 := H) (t := webT false _ _) (eva_cons (ev_var rfl r0) eva_nil) (dep_web _ _ _)).ev s8) eva_nil)) (w_any _ wf_row) (o_any _ or_row)).ev s8) eva_nil))))
  intro v9 H9 t9 r6
  have s9 := s8.trans t9
  have r7 := r7.mono (nw_fwd t9)
  rw [got_kw] at r6
  refine ⟨_, rfl, ?_⟩
  apply ev_use (H0 := H)
  · exact ev_cat s9 (ev_var rfl r7) (ev_lst s9 (eva_cons ev_c (eva_cons (ev_tup s9 (eva_cons ev_c (eva_cons ev_c (eva_cons ev_c eva_nil)))) (eva_cons (ev_tup s9 (eva_cons ev_c eva_nil)) eva_nil))))
  intro v H10 t10 r
  exact ⟨_, v, _, rfl, (r6.mono nw_same).mono t10, r.mono nw_same, by decide +kernel, fun H11 t11 => q _ ((s9.trans t10).trans t11)⟩
theorem sc_law_right : FnScope ["_law_tin", "_law_net", "_law_walk_here", "_law_seats", "_law_soft_so", "_law_rows_so", "_law_k", "_law_far", "_law_due", "_law_calm_so", "_law_by_so", "_law_own"] ["_law_tin"] (defScope (top 47)) := ⟨rfl, rfl, rfl, by decide +kernel, rfl, by decide +kernel, by decide +kernel⟩
/-- what stands from the start on -/
structure Sit (H : Hp) (v : V) (m : Int) (gs : G) (w : Addr) (row : List Nat) (p : Addr) (u : V) : Prop where
  net : Rp H v (webT false m gs)
  walk : H w = some (.tup (row.map nV))
  seats : H p = some (.tup (tkV gs row))
  soft : Rp H u (webT true m gs)
theorem Sit.mono {H H' : Hp} {v : V} {m : Int} {gs : G} {w : Addr} {row : List Nat} {p : Addr} {u : V} (z : Sit H v m gs w row p u) (s : Same H H') : Sit H' v m gs w row p u :=
  ⟨z.net.mono s, s _ _ z.walk, s _ _ z.seats, z.soft.mono s⟩
theorem nat_shaped (l : List Nat) : SeqAt.shaped (.list (l.map fun k : Nat => PyData.int (k : Int))) = true := by
  have h1 : ∀ l : List Nat, PyData.canLayAll0 (l.map fun k : Nat => PyData.int (k : Int)) = true := fun l => by
    induction l with
    | nil => rfl
    | cons k l ih =>
      rw [List.map_cons, PyData.canLayAll0, PyData.canLay0, ih]
      rfl
  have h2 : ∀ l : List Nat, PyData.depthAll (l.map fun k : Nat => PyData.int (k : Int)) = 0 := fun l => by
    induction l with
    | nil => rfl
    | cons k l ih =>
      rw [List.map_cons, PyData.depthAll, PyData.depth, ih]
      rfl
  unfold SeqAt.shaped
  rw [PyData.canLay0, PyData.depth, h1, h2]
  rfl
theorem nat_dp {K : PySem.W.Frag} {H : Hp} {a : Addr} {l : List Nat} (h : H a = some (.lst (l.map nV))) : Dp K H (.ref a) (.list (l.map fun k : Nat => PyData.int (k : Int))) := by
  refine .lst (SqL.of h) ?_
  clear h
  induction l with
  | nil => exact .nil
  | cons k l ih => exact .cons (.int _) ih
theorem nat_eqv (l : List Nat) : PyData.eqv (.list (l.map fun k : Nat => PyData.int (k : Int))) (.list []) = l.isEmpty := by
  cases l with
  | nil => rfl
  | cons k l =>
    rw [List.map_cons, PyData.eqv, PyData.eqvAll]
    rfl
theorem ne_nil {K : PySem.W.Frag} {H : Hp} {Q : VK} {a b : Addr} {l : List Nat} (h : H a = some (.lst (l.map nV))) (g : H b = some (.lst [])) (q : Q (.bl (!l.isEmpty)) H) : rNeD K (.ref a) (.ref b) H Q := by
  rw [← nat_eqv] at q
  exact ⟨_, _, nat_dp h, .lst (SqL.of g) .nil, nat_shaped l, nat_shaped [], q⟩
theorem eq_nil {K : PySem.W.Frag} {H : Hp} {Q : VK} {a b : Addr} {l : List Nat} (h : H a = some (.lst (l.map nV))) (g : H b = some (.lst [])) (q : Q (.bl l.isEmpty) H) : rEqD K (.ref a) (.ref b) H Q := by
  rw [← nat_eqv] at q
  exact ⟨_, _, nat_dp h, .lst (SqL.of g) .nil, nat_shaped l, nat_shaped [], q⟩
theorem range_item {n i : Nat} {x : V} (h : ((List.range n).map nV)[i]? = some x) : i < n ∧ x = nV i := by
  rw [List.getElem?_map] at h
  obtain ⟨j, e1, rfl⟩ := Option.map_eq_some_iff.mp h
  obtain ⟨hl, e⟩ := List.getElem?_eq_some_iff.mp e1
  rw [List.getElem_range] at e
  subst e
  exact ⟨by simpa using hl, rfl⟩
theorem len_int {row : List Nat} {n : Nat} (h : row.length = n) : ((row.map nV).length : Int) = (n : Int) := by rw [List.length_map, h]
section
variable {K : PySem.W.Frag} {σ : L2.St} {H : Hp} {Q : VK} {v : V} {m : Int} {gs : G} {w : Addr} {row : List Nat} {k : Nat}
theorem far_read (h1 : σ[1]? = some (some v)) (h2 : σ[2]? = some (some (.ref w))) (h6 : σ[6]? = some (some (nV k))) (net : Rp H v (webT false m gs)) (walk : H w = some (.tup (row.map nV))) (ho : Ord gs.length row) (hg : gs.length ≤ 1000)
    (kq : ∀ p2 H', Same H H' → H' p2 = some (.tup (tkV gs (off row k))) → Q (.ref p2) H') : tCall sp_run [] E0 (tCons (tVar 1) (tCons (tCall sp_off [] E0 (tCons (tVar 2) (tCons (tVar 6) tNil))) tNil)) σ H Q := by
  have hn : row.length ≤ 1000 := by rw [ho.len]; exact hg
  have hol := off_len row k
  refine ⟨v, h1, _, h2, _, h6, w, row, k, rfl, walk, hn, fun y H1 s1 hy => ?_⟩
  obtain ⟨o1, rfl, ho1⟩ := hy
  refine ⟨v, m, gs, o1, off row k, rfl, net.mono s1, hg, (of_nw ho1).2, fun j hj => ho.lt j (off_mem hj), by omega, fun y H2 s2 hy => ?_⟩
  obtain ⟨p2, rfl, hp2⟩ := hy
  exact kq p2 H2 (s1.trans s2) (of_nw hp2).2
theorem offs_read {vs : List Nat} {tt : TT} (pr : Nat → Bool) (h2 : σ[2]? = some (some (.ref w))) (h6 : σ[6]? = some (some (nV k))) (walk : H w = some (.tup (row.map nV))) (hn : row.length ≤ 1000)
    (hw : ∀ x, wipe ((wipe σ vs).set 11 (some x)) vs = wipe σ vs) (hj : ∀ x, ((wipe σ vs).set 11 (some x))[11]? = some (some x))
    (ht : ∀ j H2 (Q : Bool → Hp → Prop), j ∈ off row k → Same H H2 → (∀ H', Same H2 H' → Q (pr j) H') → tt ((wipe σ vs).set 11 (some (nV j))) H2 Q)
    (kq : ∀ D H', Same H H' → H' D = some (.lst (((off row k).filter pr).map nV)) → Q (.ref D) H') : tLcI (iTup K (tCall sp_off [] E0 (tCons (tVar 2) (tCons (tVar 6) tNil)))) (gName 11) tt (tVar 11) vs σ H Q := by
  have hol := off_len row k
  refine ⟨_, h2, _, h6, w, row, k, rfl, walk, hn, fun y H1 s1 hy => ?_⟩
  obtain ⟨o1, rfl, ho1⟩ := hy
  have ho1' := (of_nw ho1).2
  refine ⟨o1, rfl, ⟨_, SqT.of ho1'⟩, ?_⟩
  exact lc_flt (l := off row k) (X := nV) (runs_tup (SqT.of ho1')) pr (by omega) hw hj (fun j H2 Q hj s kq => ht j H2 Q hj (s1.trans s) kq) fun D H' hD s hy => kq D H' (s1.trans s) hy
end
theorem h_law_right (F : At K mg "_law_right" 47) (Z : Free mg) (c_law_busy_net : Has P w K mg base CX0 3 "_law_busy_net" ["_law_tin", "_law_places_so", "_law_guests_so"] sp_busy) (c_law_walk : Has P w K mg base CX0 3 "_law_walk" ["_law_tin", "_law_many_so"] sp_walk) (c_law_pick : Has P w K mg base CX0 2 "_law_pick" ["_law_tin", "_law_goods_so", "_law_count_so"] sp_pick) (c_law_run : Has P w K mg base CX0 2 "_law_run" ["_law_net", "_law_walk_here"] sp_run) (c_law_lists : Has P w K mg base CX0 4 "_law_lists" ["_law_matter"] (sp_lists 3)) (c_law_helped : Has P w K mg base CX0 3 "_law_helped" ["_law_net", "_law_walk_here", "_law_k"] sp_lhelped) (c_law_same : Has P w K mg base CX0 4 "_law_same" ["_law_got", "_law_due"] (sp_same 3)) (c_law_off : Has P w K mg base CX0 1 "_law_off" ["_law_walk_here", "_law_k"] sp_off) (c_harmless : Has P w K mg base CX0 6 "harmless" ["web", "order"] sp_harmless) (c_helped : Has P w K mg base CX0 7 "helped" ["web", "order", "guest"] sp_helped) (c_law_heard : Has P w K mg base CX0 8 "_law_heard" ["_law_net", "_law_walk_here", "_law_k"] sp_heard) : Has P w K mg base CX0 9 "_law_right" ["_law_tin"] sp_right := by
  refine Has.mk0 F sc_law_right (fun _ _ _ _ _ _ us hl => match us, hl with | [_], _ => rfl) (fun vs H Q E h => by first | (obtain ⟨rfl, _⟩ := h; rfl) | (obtain ⟨_, rfl, _⟩ := h; rfl) | (obtain ⟨_, _, rfl, _⟩ := h; rfl) | (obtain ⟨_, _, _, rfl, _⟩ := h; rfl) | (obtain ⟨_, _, _, _, rfl, _⟩ := h; rfl) | (obtain ⟨_, _, _, _, _, rfl, _⟩ := h; rfl) | (obtain ⟨_, _, _, _, _, _, rfl, _⟩ := h; rfl) | (obtain ⟨_, _, _, _, _, _, _, rfl, _⟩ := h; rfl)) fun f cdv A outer s H vs Q E hr h => ?_
  refine ⟨_, (pss_cons (ps_set (i := 1) sc_law_right.nd rfl (.inr rfl) (pe_has c_law_busy_net hr (by decide) rfl (pa_cons (pv 0) (pa_cons pe_int (pa_cons pe_int pa_nil)))))
      (pss_cons (ps_set (i := 2) sc_law_right.nd rfl (.inr rfl) (pe_has c_law_walk hr (by decide) rfl (pa_cons (pv 0) (pa_cons (pe_callB (k_len K) rfl Z.len PySem.boot_len (pa_cons (pe_ix (k_ixT K) (pv 1) pe_int (fun _ _ => rfl)) pa_nil)) pa_nil))))
      (pss_cons (ps_asg (pe_tup (pa_cons (pe_has c_law_run hr (by decide) rfl (pa_cons (pv 1) (pa_cons (pv 2) pa_nil))) (pa_cons (pe_has c_law_lists hr (by decide) rfl (pa_cons (pv 1) pa_nil)) pa_nil))) (pg_tup (by rfl) (pgs_cons (pg_name (i := 3) sc_law_right.nd rfl (.inr rfl)) (pgs_cons (pg_name (i := 4) sc_law_right.nd rfl (.inl rfl)) pgs_nil))))
      (pss_cons (ps_setLcI (i := 5) (own := [("_law_k", 6)]) (g := gName 6) (tt := tYes) rfl sc_law_right.nd rfl rfl (sw_true rfl rfl rfl (by decide +kernel)) (pi_range1 rfl Z.range (pa_cons (pe_callB (k_len K) rfl Z.len PySem.boot_len (pa_cons (pv 2) pa_nil)) pa_nil)) (blkOk_by (own := [("_law_k", 6)]) (N := ["_law_tin", "_law_net", "_law_walk_here", "_law_seats", "_law_soft_so", "_law_rows_so", "_law_k", "_law_far", "_law_due", "_law_calm_so", "_law_by_so", "_law_own"]) (sc := defScope (top 47)) (by decide +kernel)) (fun _ _ _ _ _ => pg_name (i := 6) sc_law_right.nd rfl (Or.inl rfl)) (fun _ _ _ _ _ => pts_nil) (fun _ _ _ _ _ => (pe_has c_law_helped hr (by decide) rfl (pa_cons (pv 1) (pa_cons (pv 2) (pa_cons (pv 6) pa_nil))))))
      (pss_cons (ps_for PassesOwn.never rfl (pi_range1 rfl Z.range (pa_cons (pe_callB (k_len K) rfl Z.len PySem.boot_len (pa_cons (pv 2) pa_nil)) pa_nil)) (pg_name (i := 6) sc_law_right.nd rfl (.inr rfl)) (pss_cons (ps_set (i := 7) sc_law_right.nd rfl (.inr rfl) (pe_has c_law_run hr (by decide) rfl (pa_cons (pv 1) (pa_cons (pe_has c_law_off hr (by decide) rfl (pa_cons (pv 2) (pa_cons (pv 6) pa_nil))) pa_nil))))
      (pss_one (ps_if (PW.pt (pw_or (pt_cmpR op_gt (pe_callB (k_len K) rfl Z.len PySem.boot_len (pa_cons (pe_ix (k_ixL K) (pv 5) (pv 6) (fun _ _ => rfl)) pa_nil)) pe_int (nomark _)) (pw_or1 (pt_cmpR (k_neD K hr.units) (pe_lcI (own := [("_law_own", 11)]) (g := gName 11)  rfl sc_law_right.nd (k_tup K (pe_has c_law_off hr (by decide) rfl (pa_cons (pv 2) (pa_cons (pv 6) pa_nil)))) (blkOk_by (own := [("_law_own", 11)]) (N := ["_law_tin", "_law_net", "_law_walk_here", "_law_seats", "_law_soft_so", "_law_rows_so", "_law_k", "_law_far", "_law_due", "_law_calm_so", "_law_by_so", "_law_own"]) (sc := defScope (top 47)) (by decide +kernel)) (fun _ _ _ _ _ => pg_name (i := 11) sc_law_right.nd rfl (Or.inl rfl)) (fun _ _ _ _ _ => (pts_one (PW.pt (pw_and (pt_cmpR op_notN (pe_ix (k_ixT K) (pv 3) (pv 11) (fun _ _ => rfl)) pe_non (nomark _)) (pw_and1 (pt_cmpR op_isN (pe_ix (k_ixT K) (pv 7) (pv 11) (fun _ _ => rfl)) pe_non (nomark _))))))) (fun _ _ _ _ _ => (pv 11))) (pe_lst pa_nil) (nomark _))))) (pss_one (ps_ret pe_bl)) pss_nil))))
      (pss_cons (ps_set (i := 8) sc_law_right.nd rfl (.inr rfl) (pe_lcI (own := [("_law_own", 11)]) (g := gName 11) (tt := tYes) rfl sc_law_right.nd (k_list K (pv 5)) (blkOk_by (own := [("_law_own", 11)]) (N := ["_law_tin", "_law_net", "_law_walk_here", "_law_seats", "_law_soft_so", "_law_rows_so", "_law_k", "_law_far", "_law_due", "_law_calm_so", "_law_by_so", "_law_own"]) (sc := defScope (top 47)) (by decide +kernel)) (fun _ _ _ _ _ => pg_name (i := 11) sc_law_right.nd rfl (Or.inl rfl)) (fun _ _ _ _ _ => pts_nil) (fun _ _ _ _ _ => (pe_ifExp (pt_cmpR (k_neD K hr.units) (pv 11) (pe_lst pa_nil) (nomark _)) (pe_ix (k_ixL K) (pv 11) pe_int (fun _ _ => rfl)) pe_non))))
      (pss_cons (ps_if (pt_not (pt_val (pe_has c_law_same hr (by decide) rfl (pa_cons (pe_lcI (own := [("_law_k", 6)]) (g := gName 6) (tt := tYes) rfl sc_law_right.nd (pi_range1 rfl Z.range (pa_cons (pe_callB (k_len K) rfl Z.len PySem.boot_len (pa_cons (pv 2) pa_nil)) pa_nil)) (blkOk_by (own := [("_law_k", 6)]) (N := ["_law_tin", "_law_net", "_law_walk_here", "_law_seats", "_law_soft_so", "_law_rows_so", "_law_k", "_law_far", "_law_due", "_law_calm_so", "_law_by_so", "_law_own"]) (sc := defScope (top 47)) (by decide +kernel)) (fun _ _ _ _ _ => pg_name (i := 6) sc_law_right.nd rfl (Or.inl rfl)) (fun _ _ _ _ _ => pts_nil) (fun _ _ _ _ _ => (pe_has c_helped hr (by decide) rfl (pa_cons (pv 1) (pa_cons (pv 2) (pa_cons (pv 6) pa_nil)))))) (pa_cons (pv 8) pa_nil))))) (pss_one (ps_ret pe_bl)) pss_nil)
      (pss_cons (ps_set (i := 9) sc_law_right.nd rfl (.inl rfl) (pe_lst pa_nil))
      (pss_cons (ps_for PassesOwn.never rfl (pi_range1 rfl Z.range (pa_cons (pe_callB (k_len K) rfl Z.len PySem.boot_len (pa_cons (pv 2) pa_nil)) pa_nil)) (pg_name (i := 6) sc_law_right.nd rfl (.inr rfl)) (pss_cons (ps_set (i := 7) sc_law_right.nd rfl (.inr rfl) (pe_has c_law_run hr (by decide) rfl (pa_cons (pv 1) (pa_cons (pe_has c_law_off hr (by decide) rfl (pa_cons (pv 2) (pa_cons (pv 6) pa_nil))) pa_nil))))
      (pss_one (ps_if (pt_cmpR (k_eqD K hr.units) (pe_lcI (own := [("_law_own", 11)]) (g := gName 11)  rfl sc_law_right.nd (k_tup K (pe_has c_law_off hr (by decide) rfl (pa_cons (pv 2) (pa_cons (pv 6) pa_nil)))) (blkOk_by (own := [("_law_own", 11)]) (N := ["_law_tin", "_law_net", "_law_walk_here", "_law_seats", "_law_soft_so", "_law_rows_so", "_law_k", "_law_far", "_law_due", "_law_calm_so", "_law_by_so", "_law_own"]) (sc := defScope (top 47)) (by decide +kernel)) (fun _ _ _ _ _ => pg_name (i := 11) sc_law_right.nd rfl (Or.inl rfl)) (fun _ _ _ _ _ => (pts_one (pt_cmpR op_ne (pe_ix (k_ixT K) (pv 3) (pv 11) (fun _ _ => rfl)) (pe_ix (k_ixT K) (pv 7) (pv 11) (fun _ _ => rfl)) (nomark _)))) (fun _ _ _ _ _ => (pv 11))) (pe_lst pa_nil) (nomark _)) (pss_one (ps_expr (pe_bm PySem.F.plainAttrs_list PySem.F.slot_list_append PySem.F.type_list_append mt_append (pv 9) (pa_cons (pv 6) pa_nil)))) pss_nil))))
      (pss_cons (ps_if (pt_not (pt_val (pe_has c_law_same hr (by decide) rfl (pa_cons (pe_has c_harmless hr (by decide) rfl (pa_cons (pv 4) (pa_cons (pe_callTy (k_lstOf K) rfl Z.list PyProof.Rows.boot_list (pa_cons (pv 2) pa_nil)) pa_nil))) (pa_cons (pe_callTy (k_tupOf K) rfl Z.tuple PyProof.Rows.boot_tuple (pa_cons (pv 9) pa_nil)) pa_nil))))) (pss_one (ps_ret pe_bl)) pss_nil)
      (pss_cons (ps_for PassesOwn.never rfl (k_list K (pe_has c_law_pick hr (by decide) rfl (pa_cons (pv 0) (pa_cons (pe_callTy (k_lstOf K) rfl Z.list PyProof.Rows.boot_list (pa_cons (pv 2) pa_nil)) (pa_cons pe_int pa_nil))))) (pg_name (i := 6) sc_law_right.nd rfl (.inr rfl)) (pss_cons (ps_set (i := 10) sc_law_right.nd rfl (.inl rfl) (pe_callTy (k_tupOf K) rfl Z.tuple PyProof.Rows.boot_tuple (pa_cons (pe_lcI (own := [("_law_own", 11)]) (g := gName 11)  rfl sc_law_right.nd (pi_range1 rfl Z.range (pa_cons (pe_callB (k_len K) rfl Z.len PySem.boot_len (pa_cons (pv 2) pa_nil)) pa_nil)) (blkOk_by (own := [("_law_own", 11)]) (N := ["_law_tin", "_law_net", "_law_walk_here", "_law_seats", "_law_soft_so", "_law_rows_so", "_law_k", "_law_far", "_law_due", "_law_calm_so", "_law_by_so", "_law_own"]) (sc := defScope (top 47)) (by decide +kernel)) (fun _ _ _ _ _ => pg_name (i := 11) sc_law_right.nd rfl (Or.inl rfl)) (fun _ _ _ _ _ => (pts_one (pt_cmpR op_eq (pe_ix (k_ixL K) (pv 8) (pv 11) (fun _ _ => rfl)) (pv 6) (nomark _)))) (fun _ _ _ _ _ => (pv 11))) pa_nil)))
      (pss_one (ps_if (pt_not (pt_val (pe_has c_law_same hr (by decide) rfl (pa_cons (pe_has c_law_heard hr (by decide) rfl (pa_cons (pv 4) (pa_cons (pe_callTy (k_lstOf K) rfl Z.list PyProof.Rows.boot_list (pa_cons (pv 2) pa_nil)) (pa_cons (pv 6) pa_nil)))) (pa_cons (pe_ifExp (pt_cmpR op_isN (pe_ix (k_ixT K) (pv 3) (pv 6) (fun _ _ => rfl)) pe_non (nomark _)) (pv 10) (pe_lst (pa_cons pe_str (pa_cons pe_bl pa_nil)))) pa_nil))))) (pss_one (ps_ret pe_bl)) pss_nil))))
      (pss_one (ps_ret pe_bl))))))))))))), ?_⟩
  obtain ⟨t, rfl, tin, q⟩ := h
  refine ⟨_, rfl, t, 0, rfl, tin, by decide, fun v m gs H1 wf hlen sb1 tin1 rv => ?_⟩
  obtain ⟨a, b, ps, W⟩ := rv.web
  obtain rfl := W.v
  refine ⟨_, rfl, _, rfl, a, _, 1, _, rfl, rfl, SqT.of (of_nw W.a).2, atI_nat (j := 1) rfl, b, ps, rfl, .inr (SqT.of (of_nw W.b).2), t, _, gs.length, by rw [W.len]; rfl, tin1, by decide, by omega, fun w row H2 ho sb2 tin2 hw0 hw => ?_⟩
  have hw' : nw H H2 w = some (.tup (row.map nV)) := nw_of (sb1.fr tin1 hw0) hw
  have rv2 := rv.mono (keepT tin.some sb2)
  clear W rv
  have hrl := ho.len
  have hg : gs.length ≤ 1000 := by omega
  have hn : row.length ≤ 1000 := by omega
  refine ⟨_, rfl, _, rfl, _, m, gs, w, row, rfl, rv2.mono nw_same, hg, hw, ho.lt, hn, fun x3 H3 s3 hx3 => ?_⟩
  obtain ⟨p, rfl, hp⟩ := hx3
  refine ⟨_, rfl, _, _, rfl, (rv2.mono nw_same).mono s3, dep_web _ _ _, fun u H4 s4 ru => ?_⟩
  rw [conv_web] at ru
  have sit : Sit (nw H H4) (.ref a) m gs w row p u := by
    have s24 := s3.trans s4
    have f23 : ∀ b, H3 b = none → H b = none := fun b h => (sb1.trans sb2).fr tin2 (s3.free h)
    have f2 : ∀ b, H2 b = none → H b = none := fun b h => (sb1.trans sb2).fr tin2 h
    exact ⟨rv2.mono (nw_fwd s24), nw_fwd s24 _ _ hw', nw_fwd s4 _ _ (nw_sub f2 _ _ hp), ru.mono (nw_sub f23)⟩
  have tin4 := tin2.keep (s3.trans s4)
  have sb4 := (sb1.trans sb2).trans (same_b (s3.trans s4) t)
  clear hw hw' rv2 ru hp hw0 s3 s4 sb2 sb1 tin1 tin2
  refine ⟨by show 2 ≤ sizeLine; decide, fun T hT => ?_⟩
  refine ⟨T, _, rfl, SqT.of upd_same, rfl, _, _, rfl, _, _, rfl, rfl, ?_⟩
  have sT : Same H4 (upd H4 T (.tup [.ref p, u])) := same_new hT
  replace sit := sit.mono (nw_fwd sT)
  replace tin4 := tin4.keep sT
  replace sb4 := sb4.trans (same_b sT t)
  generalize upd H4 T (.tup [.ref p, u]) = H5 at sit tin4 sb4
  clear sT hT T
  -- the rows
  refine ⟨_, rfl, w, _, rfl, .inr (SqT.of (of_nw sit.walk).2), _, rfl, by omega, by rw [len_int hrl]; omega, ?_⟩
  rw [len_int hrl, Int.toNat_natCast]
  refine lc_map (runs_range gs.length) (fun i y H' => Rp H' y (rowT true (hl gs row i))) (fun i v A B s r => r.mono s) (by simp; omega) (fun _ => by rfl) ?_ ?_
  · intro i x H2 Q hi s k
    obtain ⟨hi2, rfl⟩ := range_item hi
    refine ⟨_, rfl, _, rfl, _, rfl, _, m, gs, w, row, i, rfl, (sit.net.mono nw_same).mono s, hg, s _ _ (of_nw sit.walk).2, ho, fun y H3 s3 hy => ?_⟩
    obtain ⟨l, rfl, hl'⟩ := hy
    have := (one_less (gs := gs) ho (ord_mem ho hi2)).2
    exact k _ _ s3 (row_rp hl' (by omega))
  intro D ys H6 hD s6 hy hyl hR
  rw [List.length_map, List.length_range] at hyl
  have rows : ∀ k, k < gs.length → ∃ l, ys[k]? = some (.ref l) ∧ H6 l = some (.lst ((hl gs row k).map nV)) := fun k hk => by
    have e : ys[k]? = some ys[k] := List.getElem?_eq_getElem (by omega)
    obtain ⟨l, e2, e3⟩ := (hR k _ e).row
    exact ⟨l, by rw [e, e2], (of_nw e3).2⟩
  clear hR
  replace sit := sit.mono (nw_fwd s6)
  replace tin4 := tin4.keep s6
  replace sb4 := sb4.trans (same_b s6 t)
  clear s6 hD H5
  -- the first loop
  refine ⟨_, rfl, w, _, rfl, .inr (SqT.of (of_nw sit.walk).2), _, rfl, by omega, by rw [len_int hrl]; omega, ?_⟩
  rw [len_int hrl, Int.toNat_natCast]
  have net6 := sit.net.mono nw_same
  have walk6 := (of_nw sit.walk).2
  have seats6 := (of_nw sit.seats).2
  refine for_any gs.length (fun i σ H' => ∃ x6 x7, σ = [some (.ref t), some (.ref a), some (.ref w), some (.ref p), some u, some (.ref D), x6, x7, none, none, none, none] ∧ Same H6 H') ⟨none, none, rfl, Same.refl _⟩ (fun i σ H' hi _ => hi) (fun σ H' _ => Nat.le_refl _) ?_ ?_
  · rintro i σ H' x H'' hi ⟨x6, x7, rfl, s⟩ ⟨rfl, rfl⟩
    rw [Int.zero_add]
    refine far_read (k := i) rfl rfl rfl (net6.mono s) (s _ _ walk6) ho hg fun p2 H7 s7 hp2 => ?_
    have s67 := s.trans s7
    obtain ⟨l, hl1, hl2⟩ := rows i hi
    have ol := (one_less (gs := gs) ho (ord_mem ho hi)).2
    refine ⟨_, rfl, _, rfl, D, ys, (i : Int), _, rfl, rfl, SqL.of (s67 _ _ hy), atI_nat hl1, l, _, rfl, .inl (SqL.of (s67 _ _ hl2)), _, _, rfl, rfl, _, rfl, ?_⟩
    have hle : ¬ (1 : Int) < (((hl gs row i).map nV).length : Int) := by rw [List.length_map]; omega
    refine iteD (decide_eq_false hle) ?_
    have seats7 := s67 _ _ seats6
    refine offs_read (k := i) (fun j => (own gs row j).isSome && (own gs (off row i) j).isNone) rfl rfl (s67 _ _ walk6) hn (fun _ => by rfl) (fun _ => by rfl) ?_ ?_
    · intro j H8 Q hj s8 kq
      have hjl : j < gs.length := ho.lt j (off_mem hj)
      refine ⟨_, rfl, _, rfl, p, _, (j : Int), _, rfl, rfl, SqT.of (s8 _ _ seats7), atI_nat (tk_get hjl), rfl, _, rfl, ?_⟩
      rw [oV_non, show (!(own gs row j).isNone) = (own gs row j).isSome by cases own gs row j <;> rfl]
      cases e : (own gs row j).isSome with
      | false =>
        refine iteD rfl ?_
        have z := kq H8 (Same.refl _)
        rw [e, Bool.false_and] at z
        exact z
      | true =>
        refine iteC rfl ?_
        refine ⟨_, rfl, _, rfl, p2, _, (j : Int), _, rfl, rfl, SqT.of (s8 _ _ hp2), atI_nat (tk_get hjl), rfl, _, rfl, ?_⟩
        rw [oV_non]
        have z := kq H8 (Same.refl _)
        rw [e, Bool.true_and] at z
        exact z
    · intro D2 H8 s8 hD2
      rw [no_harm ho (ord_mem ho hi)] at hD2
      refine ⟨by show 0 ≤ sizeLine; decide, fun b hb => ?_⟩
      have sb : Same H8 (upd H8 b (.lst [])) := same_new hb
      refine ne_nil (l := []) (sb _ _ hD2) upd_same ⟨_, rfl, ?_⟩
      exact iteD rfl ⟨_, _, rfl, (s67.trans s8).trans sb⟩
  rintro σ H7 ⟨x6, x7, rfl, s7⟩
  replace hy := s7 _ _ hy
  have rows7 : ∀ k, k < gs.length → ∃ l, ys[k]? = some (.ref l) ∧ H7 l = some (.lst ((hl gs row k).map nV)) := fun k hk => by
    obtain ⟨l, e1, e2⟩ := rows k hk
    exact ⟨l, e1, s7 _ _ e2⟩
  replace sit := sit.mono (nw_fwd s7)
  replace tin4 := tin4.keep s7
  replace sb4 := sb4.trans (same_b s7 t)
  clear net6 walk6 seats6 rows s7 H6
  -- what is due
  refine ⟨_, rfl, D, rfl, ⟨_, SqL.of hy⟩, ?_⟩
  refine lc_map (runs_list (SqL.of hy)) (fun i y _ => y = optN (hd1 gs row i)) (fun _ _ _ _ _ e => e) (by omega) (fun _ => by rfl) ?_ ?_
  · intro i x H2 Q hi s k
    have hil : i < gs.length := by rw [← hyl]; exact (List.getElem?_eq_some_iff.mp hi).1
    obtain ⟨l, e1, e2⟩ := rows7 i hil
    rw [hi] at e1
    cases Option.some.inj e1
    refine ⟨_, rfl, by show 0 ≤ sizeLine; decide, fun b hb => ?_⟩
    have sb : Same H2 (upd H2 b (.lst [])) := same_new hb
    refine ne_nil (l := hl gs row i) (sb _ _ (s _ _ e2)) upd_same ⟨_, rfl, ?_⟩
    unfold hd1 at k
    cases e : hl gs row i with
    | nil =>
      rw [e] at k
      exact iteD rfl (k _ _ sb rfl)
    | cons j r =>
      rw [e] at k e2
      exact iteC rfl ⟨_, rfl, l, _, 0, _, rfl, rfl, SqL.of (sb _ _ (s _ _ e2)), atI_nat (j := 0) rfl, k _ _ sb rfl⟩
  intro D3 zs H8 hD3 s8 hz hzl hR
  rw [hyl] at hzl
  have ez : zs = (List.range gs.length).map fun i => optN (hd1 gs row i) := map_of hzl hR
  subst ez
  have nD3 := tin4.ne hD3
  replace sit := sit.mono (nw_fwd s8)
  replace tin4 := tin4.keep s8
  replace sb4 := sb4.trans (same_b s8 t)
  clear hR hD3 s8 hy rows7 H7 hzl
  have net8 := sit.net.mono nw_same
  have walk8 := (of_nw sit.walk).2
  have seats8 := (of_nw sit.seats).2
  have soft8 := sit.soft.mono nw_same
  -- helped
  refine ⟨_, rfl, w, _, rfl, .inr (SqT.of walk8), _, rfl, by omega, by rw [len_int hrl]; omega, ?_⟩
  rw [len_int hrl, Int.toNat_natCast]
  refine lc_map (runs_range gs.length) (fun i y _ => y = optN (hd1 gs row i)) (fun _ _ _ _ _ e => e) (by simp; omega) (fun _ => by rfl) ?_ ?_
  · intro i x H2 Q hi s k
    obtain ⟨hi2, rfl⟩ := range_item hi
    exact ⟨_, rfl, _, rfl, _, rfl, _, _, m, gs, row, i, rfl, ⟨⟨_, net8.mono s, dep_web _ _ _, conv_web _ _ _ _⟩, wf⟩, ⟨⟨_, row_rp (l := false) (s _ _ walk8) hn, Nat.le_trans (dep_row _ _) (by decide), conv_row _ _ _⟩, ho⟩, hi2, fun H3 s3 => k _ _ s3 rfl⟩
  intro D4 us H9 hD4 s9 hu hul hR
  rw [List.length_map, List.length_range] at hul
  have eu : us = (List.range gs.length).map fun i => optN (hd1 gs row i) := map_of hul hR
  subst eu
  have fl : ∀ v ∈ (List.range gs.length).map (fun i => optN (hd1 gs row i)), flatV v = true := fun v hv => by
    obtain ⟨i, _, rfl⟩ := List.mem_map.mp hv
    cases hd1 gs row i <;> rfl
  have dp : dep (.node true (((List.range gs.length).map fun i => optN (hd1 gs row i)).map Tr.leaf)) ≤ 3 := by
    show deps _ + 1 ≤ 3
    have := le_deps (n := 0) (ts := ((List.range gs.length).map fun i => optN (hd1 gs row i)).map Tr.leaf) fun t ht => by
      obtain ⟨g, _, rfl⟩ := List.mem_map.mp ht
      exact Nat.le_refl 0
    omega
  refine ⟨_, rfl, _, _, _, rfl, .node (l := true) hu (by simp; omega) (RpAll.flat fl), .node (l := true) (s9 _ _ hz) (by simp; omega) (RpAll.flat fl), dp, fun H10 s10 => ⟨_, rfl, iteD rfl ?_⟩⟩
  clear hR dp fl hul
  have s90 := s9.trans s10
  clear s9 s10 hu hD4
  refine ⟨by show 0 ≤ sizeLine; decide, fun D5 hD5 => ?_⟩
  have hD5' : H8 D5 = none := s90.free hD5
  -- the calm
  have s11 : Same H8 (upd H10 D5 (.lst [])) := s90.trans (same_new hD5)
  have hc11 : upd H10 D5 (.lst []) D5 = some (.lst []) := upd_same
  show tSeq _ _ _ _ (upd H10 D5 (.lst []))
  generalize upd H10 D5 (.lst []) = H11 at s11 hc11
  clear s90 hD5 H10
  refine ⟨_, rfl, w, _, rfl, .inr (SqT.of (s11 _ _ walk8)), _, rfl, by omega, by rw [len_int hrl]; omega, ?_⟩
  rw [len_int hrl, Int.toNat_natCast]
  refine for_any gs.length (fun i σ H' => ∃ x6 x7, σ = [some (.ref t), some (.ref a), some (.ref w), some (.ref p), some u, some (.ref D), x6, x7, some (.ref D3), some (.ref D5), none, none] ∧ Same H8 H' ∧ H' D5 = some (.lst (((List.range i).filter (same1 gs row)).map nV))) ⟨_, _, rfl, s11, hc11⟩ (fun i σ H' hi _ => hi) (fun σ H' _ => Nat.le_refl _) ?_ ?_
  · rintro i σ H' x H'' hi ⟨x6, x7, rfl, s, hc⟩ ⟨rfl, rfl⟩
    rw [Int.zero_add]
    refine far_read (k := i) rfl rfl rfl (net8.mono s) (s _ _ walk8) ho hg fun p2 H12 s12 hp2 => ?_
    have s13 := s.trans s12
    replace hc := s12 _ _ hc
    have seats12 := s13 _ _ seats8
    refine offs_read (k := i) (fun j => !decide (own gs row j = own gs (off row i) j)) rfl rfl (s13 _ _ walk8) hn (fun _ => by rfl) (fun _ => by rfl) ?_ ?_
    · intro j H13 Q hj s13 kq
      have hjl : j < gs.length := ho.lt j (off_mem hj)
      refine ⟨_, rfl, _, rfl, p, _, (j : Int), _, rfl, rfl, SqT.of (s13 _ _ seats12), atI_nat (tk_get hjl), _, rfl, _, rfl, p2, _, (j : Int), _, rfl, rfl, SqT.of (s13 _ _ hp2), atI_nat (tk_get hjl), (oV_eq _ _).1, _, rfl, ?_⟩
      rw [(oV_eq _ _).2]
      exact kq H13 (Same.refl _)
    · intro D6 H13 s13' hD6
      refine ⟨by show 0 ≤ sizeLine; decide, fun b hb => ?_⟩
      have sb : Same H13 (upd H13 b (.lst [])) := same_new hb
      refine eq_nil (sb _ _ hD6) upd_same ⟨_, rfl, ?_⟩
      rw [harm_all]
      have s14 := (s13.trans s13').trans sb
      replace hc := sb _ _ (s13' _ _ hc)
      generalize upd H13 b (.lst []) = H14 at s14 hc
      have er : (List.range (i + 1)).filter (same1 gs row) = (List.range i).filter (same1 gs row) ++ [i].filter (same1 gs row) := by rw [List.range_succ, List.filter_append]
      cases e : same1 gs row i with
      | true =>
        refine iteC rfl ?_
        have hlen : ((List.range i).filter (same1 gs row)).length ≤ i := by
          have := List.length_filter_le (same1 gs row) (List.range i)
          rw [List.length_range] at this
          exact this
        refine ⟨_, rfl, .inl ⟨rfl, _, SqL.of hc⟩, _, rfl, D5, _, _, rfl, rfl, hc, sz_lt (by rw [List.length_map]; omega), _, _, rfl, same_mut s14 hD5', ?_⟩
        rw [upd_same, er, List.filter_cons, if_pos e, List.map_append]
        rfl
      | false =>
        refine iteD rfl ⟨_, _, rfl, s14, ?_⟩
        rw [er, List.filter_cons, if_neg (by rw [e]; decide)]
        simpa using hc
  rintro σ H12 ⟨x6, x7, rfl, s12, hc⟩
  replace hz := s12 _ _ hz
  replace sit := sit.mono (nw_fwd s12)
  replace tin4 := tin4.keep s12
  replace sb4 := sb4.trans (same_b s12 t)
  clear net8 walk8 seats8 soft8 s12 s11 hc11 H11 hD5' H8
  change H12 D5 = some (.lst ((calm gs row).map nV)) at hc
  have cl := calm_len gs row hg
  -- harmless
  have walk12 := (of_nw sit.walk).2
  refine ⟨_, rfl, _, rfl, w, _, rfl, .inr (SqT.of walk12), fun l hl => ?_⟩
  have sl : Same H12 (upd H12 l (.lst (row.map nV))) := same_new hl
  have hll : upd H12 l (.lst (row.map nV)) l = some (.lst (row.map nV)) := upd_same
  generalize upd H12 l (.lst (row.map nV)) = H13 at sl hll
  refine ⟨u, .ref l, m, gs, row, rfl, ⟨⟨_, (sit.soft.mono nw_same).mono sl, dep_web _ _ _, conv_web _ _ _ _⟩, wf⟩, ⟨⟨_, row_rp (l := true) hll hn, Nat.le_trans (dep_row _ _) (by decide), conv_row _ _ _⟩, ho⟩, fun y H14 s14 hy => ?_⟩
  obtain ⟨c1, rfl, hc1⟩ := hy
  have s24 := sl.trans s14
  refine ⟨_, rfl, D5, _, rfl, .inl ⟨SqL.of (s24 _ _ hc), fun c2 hc2 => ?_⟩⟩
  have sc : Same H14 (upd H14 c2 (.tup ((calm gs row).map nV))) := same_new hc2
  refine ⟨_, _, _, rfl, row_rp (l := false) (sc _ _ (of_nw hc1).2) cl, row_rp (l := false) upd_same cl, Nat.le_trans (dep_row _ _) (by decide), fun H15 s15 => ⟨_, rfl, iteD rfl ?_⟩⟩
  have s25 := (s24.trans sc).trans s15
  replace hz := s25 _ _ hz
  replace sit := sit.mono (nw_fwd s25)
  replace tin4 := tin4.keep s25
  replace sb4 := sb4.trans (same_b s25 t)
  clear s25 s15 sc hc2 s24 hc1 s14 hll sl hl walk12 hc cl H14 H13 H12
  -- the last loop
  have walk15 := (of_nw sit.walk).2
  refine ⟨_, rfl, _, rfl, w, _, rfl, .inr (SqT.of walk15), fun l hl => ?_⟩
  have sl : Same H15 (upd H15 l (.lst (row.map nV))) := same_new hl
  have hll : upd H15 l (.lst (row.map nV)) l = some (.lst (row.map nV)) := upd_same
  generalize upd H15 l (.lst (row.map nV)) = H16 at sl hll
  refine ⟨t, l, _, 3, _, rfl, tin4.keep sl, by decide, hll, tin4.ne hl, by simp; omega, ⟨by decide, by decide⟩, fun pk zs rest H17 pm hzl sb tin5 hpk0 hpk => ?_⟩
  have sb57 : SameB t H15 H17 := (same_b sl t).trans sb
  replace hz := sb57 _ _ nD3 hz
  replace sit := sit.mono (keepT tin.some sb57)
  clear sb57 sb hll sl hl walk15
  have net := sit.net.mono nw_same
  have walk := (of_nw sit.walk).2
  have seats := (of_nw sit.seats).2
  have soft := sit.soft.mono nw_same
  refine ⟨pk, rfl, ⟨_, SqL.of hpk⟩, ?_⟩
  refine for_any zs.length (fun i σ H' => ∃ x6 x7 x10, σ = [some (.ref t), some (.ref a), some (.ref w), some (.ref p), some u, some (.ref D), x6, x7, some (.ref D3), some (.ref D5), x10, none] ∧ Same H17 H') ⟨_, _, _, rfl, Same.refl _⟩ ?_ ?_ ?_ ?_
  · rintro i σ H' hi ⟨x6, x7, x10, rfl, s⟩
    exact ⟨zs, zs[i], SqL.of (s _ _ hpk), List.getElem?_eq_getElem hi⟩
  · rintro σ H' ⟨x6, x7, x10, rfl, s⟩
    exact ⟨zs, SqL.of (s _ _ hpk), Nat.le_refl _⟩
  · rintro i σ H' x H'' hi ⟨x6, x7, x10, rfl, s⟩ ⟨rfl, hx⟩
    have hx' := hx zs (SqL.of (s _ _ hpk))
    obtain ⟨k, hk, rfl⟩ : ∃ k ∈ row, x = nV k := by
      have h1 := pm.mem_iff.mp (List.mem_append_left rest (List.mem_of_getElem? hx'))
      obtain ⟨k, h2, h3⟩ := List.mem_map.mp h1
      exact ⟨k, h2, h3.symm⟩
    have hkn := ho.lt k hk
    refine ⟨_, rfl, w, _, rfl, .inr (SqT.of (s _ _ walk)), _, rfl, by omega, by rw [len_int hrl]; omega, ?_⟩
    rw [len_int hrl, Int.toNat_natCast]
    refine lc_flt (l := List.range gs.length) (X := nV) (runs_range gs.length) (fun j => decide (hd1 gs row j = some k)) (by simp; omega) (fun _ => by rfl) (fun _ => by rfl) ?_ ?_
    · intro j H18 Q hj s18 kq
      have e : ((List.range gs.length).map fun i => optN (hd1 gs row i))[j]? = some (optN (hd1 gs row j)) := by
        rw [List.getElem?_map, List.getElem?_range (List.mem_range.mp hj)]
        rfl
      refine ⟨_, rfl, _, rfl, D3, _, (j : Int), _, rfl, rfl, SqL.of (s18 _ _ (s _ _ hz)), atI_nat e, _, rfl, (optN_eq _ _).1, _, rfl, ?_⟩
      rw [(optN_eq _ _).2]
      exact kq H18 (Same.refl _)
    · intro D6 H18 hD6 s18 hy6
      change H18 D6 = some (.lst ((hps gs row k).map nV)) at hy6
      refine ⟨D6, _, rfl, .inl ⟨SqL.of hy6, fun r hr => ?_⟩⟩
      have sr : Same H18 (upd H18 r (.tup ((hps gs row k).map nV))) := same_new hr
      have hr1 : upd H18 r (.tup ((hps gs row k).map nV)) r = some (.tup ((hps gs row k).map nV)) := upd_same
      have s19 := (s.trans s18).trans sr
      generalize upd H18 r (.tup ((hps gs row k).map nV)) = H19 at sr hr1 s19
      refine ⟨_, rfl, _, rfl, w, _, rfl, .inr (SqT.of (s19 _ _ walk)), fun l hl => ?_⟩
      have sl : Same H19 (upd H19 l (.lst (row.map nV))) := same_new hl
      have hll : upd H19 l (.lst (row.map nV)) l = some (.lst (row.map nV)) := upd_same
      generalize upd H19 l (.lst (row.map nV)) = H20 at sl hll
      have s20 := s19.trans sl
      refine ⟨_, rfl, u, .ref l, m, gs, row, k, rfl, ⟨⟨_, soft.mono s20, dep_web _ _ _, conv_web _ _ _ _⟩, wf⟩, ⟨⟨_, row_rp (l := true) hll hn, Nat.le_trans (dep_row _ _) (by decide), conv_row _ _ _⟩, ho⟩, hkn, fun y H21 s21 hy => ?_⟩
      have s211 := s20.trans s21
      refine ⟨_, rfl, _, rfl, p, _, (k : Int), _, rfl, rfl, SqT.of (s211 _ _ seats), atI_nat (tk_get hkn), rfl, _, rfl, ?_⟩
      rw [oV_non]
      cases e : own gs row k with
      | none =>
        refine iteC rfl ⟨_, rfl, ?_⟩
        rw [heard_yes e _ rfl] at hy
        exact ⟨_, _, _, rfl, Rp.mono nw_same hy, row_rp (l := false) ((sl.trans s21) _ _ hr1) (hps_len gs row k hg), Nat.le_trans (dep_row _ _) (by decide), fun H22 s22 => ⟨_, rfl, iteD rfl ⟨_, _, _, rfl, s211.trans s22⟩⟩⟩
      | some z =>
        refine iteD rfl ?_
        rw [heard_no (by rw [e]; simp)] at hy
        refine ⟨by show 2 ≤ sizeLine; decide, fun c hc => ?_⟩
        have sc : Same H21 (upd H21 c (.lst [.str "cannot", .bl true])) := same_new hc
        exact ⟨_, _, _, rfl, (Rp.mono nw_same hy).mono sc, .node (l := true) upd_same (by show 2 ≤ 1000; decide) (.cons (.leaf rfl) (.cons (.leaf rfl) .nil)), by decide, fun H22 s22 => ⟨_, rfl, iteD rfl ⟨_, _, _, rfl, (s211.trans sc).trans s22⟩⟩⟩
  · rintro σ H' ⟨x6, x7, x10, rfl, s⟩
    exact q _
theorem sc_law : FnScope ["_law_script"] ["_law_script"] (defScope (top 48)) := ⟨rfl, rfl, rfl, by decide +kernel, rfl, by decide +kernel, by decide +kernel⟩

theorem h_law (F : At K mg "law" 48) (Z : Free mg) (c_law_by_hand_right : Has P w K mg base CX0 9 "_law_by_hand_right" [] sp_by_hand) (c_law_right : Has P w K mg base CX0 9 "_law_right" ["_law_tin"] sp_right) (c_law_box : Has P w K mg base CX0 1 "_law_box" ["_law_script", "_law_k"] sp_box) (c_law_cells : Has P w K mg base CX0 1 "_law_cells" ["_law_script", "_law_most_so"] (sp_cells K)) : Has P w K mg base CX0 10 "law" ["_law_script"] (sp_law K) := by
  refine Has.mk0 F sc_law (fun _ _ _ _ _ _ us hl => match us, hl with | [_], _ => rfl) (fun vs H Q E h => by first | (obtain ⟨rfl, _⟩ := h; rfl) | (obtain ⟨_, rfl, _⟩ := h; rfl) | (obtain ⟨_, _, rfl, _⟩ := h; rfl) | (obtain ⟨_, _, _, rfl, _⟩ := h; rfl) | (obtain ⟨_, _, _, _, rfl, _⟩ := h; rfl) | (obtain ⟨_, _, _, _, _, rfl, _⟩ := h; rfl) | (obtain ⟨_, _, _, _, _, _, rfl, _⟩ := h; rfl) | (obtain ⟨_, _, _, _, _, _, _, rfl, _⟩ := h; rfl)) fun f cdv A outer s H vs Q E hr h => ?_
  refine ⟨_, (pss_one (ps_ret (pe_and (pe_has0 c_law_by_hand_right hr (by decide) rfl) (pe_one (pe_has c_law_right hr (by decide) rfl (pa_cons (pe_has c_law_box hr (by decide) rfl (pa_cons (pe_has c_law_cells hr (by decide) rfl (pa_cons (pv 0) (pa_cons pe_int pa_nil))) (pa_cons pe_int pa_nil))) pa_nil)))))), ?_⟩
  obtain ⟨a, ns, rfl, hS, hn, q⟩ := h
  refine ⟨rfl, fun H1 s1 => ⟨_, rfl, iteC rfl ?_⟩⟩
  refine ⟨_, rfl, a, ns, rfl, s1.seq hS, hn, fun y H2 s2 hy => ?_⟩
  obtain ⟨z, c, rfl, hc⟩ := hy
  refine ⟨c, z, rfl, (of_nw hc).2, fun y H3 s3 hy => ?_⟩
  obtain ⟨t, rfl, tin⟩ := hy
  exact ⟨t, rfl, tin.keep nw_same, q⟩
end

section
variable {P : Program} {w : World} {K : PySem.W.Frag} {mg : Str → Option Value} {base : Heap} {CX : CXT} {k : Nat} {sp : Sp}
theorem kw_helped (F : At K mg "helped" 26) (h : Has P w K mg base CX k "helped" ["web", "order", "guest"] sp) : KHas P w K mg base CX k "helped" ["web", "order", "guest"] ["guest", "order", "web"] gRev sp := by
  refine h.kw F fun _ _ _ _ _ _ us ws hl => ?_
  have h3 : us.length + ws.length = 3 := hl
  rcases us with _ | ⟨a, _ | ⟨b, _ | ⟨c, _ | ⟨x, us⟩⟩⟩⟩ <;> rcases ws with _ | ⟨d, _ | ⟨e, _ | ⟨f, _ | ⟨y, ws⟩⟩⟩⟩ <;> first | (exfalso; simp only [List.length_cons, List.length_nil] at h3; omega) | rfl
theorem kw_helpers (F : At K mg "helpers" 27) (h : Has P w K mg base CX k "helpers" ["web", "order", "guest"] sp) : KHas P w K mg base CX k "helpers" ["web", "order", "guest"] ["guest", "order", "web"] gRev sp := by
  refine h.kw F fun _ _ _ _ _ _ us ws hl => ?_
  have h3 : us.length + ws.length = 3 := hl
  rcases us with _ | ⟨a, _ | ⟨b, _ | ⟨c, _ | ⟨x, us⟩⟩⟩⟩ <;> rcases ws with _ | ⟨d, _ | ⟨e, _ | ⟨f, _ | ⟨y, ws⟩⟩⟩⟩ <;> first | (exfalso; simp only [List.length_cons, List.length_nil] at h3; omega) | rfl
theorem kw_harmless (F : At K mg "harmless" 29) (h : Has P w K mg base CX k "harmless" ["web", "order"] sp) : KHas P w K mg base CX k "harmless" ["web", "order"] ["order", "web"] gRev sp := by
  refine h.kw F fun _ _ _ _ _ _ us ws hl => ?_
  have h3 : us.length + ws.length = 2 := hl
  rcases us with _ | ⟨a, _ | ⟨b, _ | ⟨c, us⟩⟩⟩ <;> rcases ws with _ | ⟨d, _ | ⟨e, _ | ⟨f, ws⟩⟩⟩ <;> first | (exfalso; simp only [List.length_cons, List.length_nil] at h3; omega) | rfl
end
/-! the head: what the top has written, by names -/
def dd (x : Str) (i : Nat) : He.DefD := ⟨(x, none), x, x, defArgs (top i), defBody (top i), defScope (top i), [], []⟩
def hfn0 : List He.DefD := [dd "is_number" 5, dd "is_from" 6, dd "is_within" 7, dd "is_long" 8, dd "tupled" 9, dd "is_guest_of" 11, dd "is_web" 12, dd "sure_web" 13, dd "sure_guest" 14, dd "is_row_in" 16, dd "is_order_in" 17, dd "sure_order" 18, dd "seat_in" 19, dd "seats_in" 20, dd "seated_in" 21, dd "sure_three" 23, dd "without_one" 24, dd "helped_in" 25, dd "helped" 26, dd "helpers" 27]
def hfn1 : List He.DefD := [dd "is_harmless" 28, dd "harmless" 29, dd "_law_box" 31, dd "_law_take" 32, dd "_law_cells" 33, dd "_law_pick" 34, dd "_law_lists" 35, dd "_law_same" 36, dd "_law_seat" 37, dd "_law_run" 38, dd "_law_walk" 39, dd "_law_off" 40, dd "_law_busy_net" 41, dd "_law_row_net" 42, dd "_law_round_net" 43, dd "_law_helped" 44, dd "_law_heard" 45, dd "_law_by_hand_right" 46, dd "_law_right" 47, dd "law" 48]
def hfn : List He.DefD := hfn0 ++ hfn1
def hfa0 : List He.Fa := [.glo "is_number", .glo "is_from", .glo "is_within", .glo "is_long", .glo "tupled", .glo "is_guest_of", .glo "is_web", .glo "sure_web", .glo "sure_guest", .glo "is_row_in", .glo "is_order_in", .glo "sure_order", .glo "seat_in", .glo "seats_in", .glo "seated_in", .glo "sure_three", .glo "without_one", .glo "helped_in", .glo "helped", .glo "helpers"]
def hfa1 : List He.Fa := [.glo "is_harmless", .glo "harmless", .glo "_law_box", .glo "_law_take", .glo "_law_cells", .glo "_law_pick", .glo "_law_lists", .glo "_law_same", .glo "_law_seat", .glo "_law_run", .glo "_law_walk", .glo "_law_off", .glo "_law_busy_net", .glo "_law_row_net", .glo "_law_round_net", .glo "_law_helped", .glo "_law_heard", .glo "_law_by_hand_right", .glo "_law_right", .glo "law"]
def hfa2 : List He.Fa := [.free "len", .free "set", .free "tuple", .free "list", .free "isinstance", .free "int", .free "bool", .free "str", .free "range", .free "all", .free "sorted", .free "zip", .free "enumerate", .free "min", .free "abs", .free "ValueError", .glo "CanNot", .exc "CanNot", .exm "CanNot" "CanNot" true]
def hfa : List He.Fa := hfa0 ++ hfa1 ++ hfa2
def hloose0 : List Str := ["NoGuest", "CanNot", "Unfit", "is_number", "is_from", "is_within", "is_long", "tupled", "is_guest_of", "is_web", "sure_web", "sure_guest", "is_row_in", "is_order_in", "sure_order", "seat_in", "seats_in", "seated_in", "sure_three", "without_one"]
def hloose1 : List Str := ["helped_in", "helped", "helpers", "is_harmless", "harmless", "_law_box", "_law_take", "_law_cells", "_law_pick", "_law_lists", "_law_same", "_law_seat", "_law_run", "_law_walk", "_law_off", "_law_busy_net", "_law_row_net", "_law_round_net", "_law_helped", "_law_heard"]
def hloose2 : List Str := ["_law_by_hand_right", "_law_right"]
def hloose : List Str := hloose0 ++ hloose1 ++ hloose2
def hex (K : PySem.W.Frag) : Bool :=
  decide (PySem.W.findIn K (.ref (He.ga K "CanNot")) "__getattribute__" = some (some (.builtin "BaseException.__getattribute__"))) && (decide (PySem.W.findIn K (.ref (He.ga K "CanNot")) "__getattr__" = some none) &&
  (decide (PySem.W.subIn K (.ref (He.ga K "CanNot")) (.type "BaseException") = some true) && (PySem.W.hasDictIn K (He.ga K "CanNot") &&
  (decide (PySem.W.findIn K (.ref (He.ga K "CanNot")) "__class__" = some (some (.builtin "object.__class__"))) && (decide (PySem.W.specialIn K (.builtin "object.__class__") "__get__" = some (some (.builtin "getset_descriptor.__get__"))) &&
  (decide (PySem.W.takesIn K (.builtin "object.__class__") = some true) && (decide (PySem.W.mroIn K (He.ga K "CanNot") (.type "object") = some true) &&
  decide (PySem.W.kitOne K (.ref (He.ga K "CanNot")) (.type "ValueError") = some true))))))))
abbrev HR : PySem.W.OpenRow := PySem.W.OpenLaw.row PySem.Challenge.rw_leftwithout_k32_whole_who_is_helped
abbrev hhk : PySem.W.Hook := He.hookX 4 hfa hfn [] [] hex
def hob (s : PySem.W.SharedT) : He.AlX := He.obsX 4 hfa hfn [] [] hex (HandSHeadRun.getT s)
theorem hob_eq (s : PySem.W.SharedT) : hob s = hhk.obs s.abs := He.obsX_eq (HandSHeadRun.getT_eq s)
theorem hrun (w : World) : HandSHeadRun.RunEq HR (PySem.W.view HR.prog [48]) hhk hob 3000 hloose w := by
  intro os
  kernel_rfl
/-! the end -/
section
variable {P : Program} {w : World} {K : PySem.W.Frag} {h : Heap} {mg : Str → Option Value}
theorem at_of (X : K.In h) (G : h.Ns mainGlobals mg) {wt : World} {ht : Heap} (c : He.SaysX hfa hfn [] [] hex wt ht K) (n m : Nat) (x : Str) (i : Nat) (e1 : hfn[n]? = some (dd x i)) (e2 : hfa[m]? = some (.glo x)) : At K mg x i := by
  obtain ⟨fd, F⟩ := c.t.d.def_ n e1
  exact ⟨_, fd, F, He.glo_ok X G (c.t.d.fact m e2)⟩
theorem Has.ok {base : Heap} {CX : CXT} {k i : Nat} {x : Str} {ps : List Str} {sp : Sp} {f : Addr} {fd : FuncData} (F : FnP K x (top i) f fd) (g : mg x = some (.ref f)) (h : Has P w K mg base CX k x ps sp) : FnOk P w K mg base CX k f fd ps sp := by
  obtain ⟨f', fe, g', kp, b, G, l⟩ := h
  rw [g] at g'
  cases g'
  cases l.one (FnP.lies F)
  exact G
theorem free_of (X : K.In h) (G : h.Ns mainGlobals mg) {wt : World} {ht : Heap} (c : He.SaysX hfa hfn [] [] hex wt ht K) : Free mg :=
  ⟨He.free_ok X G (c.t.d.fact 40 (f := .free "len") rfl), He.free_ok X G (c.t.d.fact 41 (f := .free "set") rfl), He.free_ok X G (c.t.d.fact 42 (f := .free "tuple") rfl), He.free_ok X G (c.t.d.fact 43 (f := .free "list") rfl), He.free_ok X G (c.t.d.fact 44 (f := .free "isinstance") rfl), He.free_ok X G (c.t.d.fact 45 (f := .free "int") rfl), He.free_ok X G (c.t.d.fact 46 (f := .free "bool") rfl), He.free_ok X G (c.t.d.fact 47 (f := .free "str") rfl), He.free_ok X G (c.t.d.fact 48 (f := .free "range") rfl), He.free_ok X G (c.t.d.fact 49 (f := .free "all") rfl), He.free_ok X G (c.t.d.fact 50 (f := .free "sorted") rfl), He.free_ok X G (c.t.d.fact 51 (f := .free "zip") rfl), He.free_ok X G (c.t.d.fact 52 (f := .free "enumerate") rfl), He.free_ok X G (c.t.d.fact 53 (f := .free "min") rfl), He.free_ok X G (c.t.d.fact 54 (f := .free "abs") rfl), He.free_ok X G (c.t.d.fact 55 (f := .free "ValueError") rfl)⟩
theorem cannot_of (X : K.In h) (G : h.Ns mainGlobals mg) {wt : World} {ht : Heap} (c : He.SaysX hfa hfn [] [] hex wt ht K) : CanNotIs K mg (He.ga K "CanNot") := by
  have e := He.exc_ok (c.t.d.fact 57 (f := .exc "CanNot") rfl)
  have m := c.more
  obtain ⟨m1, m⟩ := He.ba m
  obtain ⟨m2, m⟩ := He.ba m
  obtain ⟨m3, m⟩ := He.ba m
  obtain ⟨m4, m⟩ := He.ba m
  obtain ⟨m5, m⟩ := He.ba m
  obtain ⟨m6, m⟩ := He.ba m
  obtain ⟨m7, m⟩ := He.ba m
  obtain ⟨m8, m9⟩ := He.ba m
  exact ⟨He.glo_ok X G (c.t.d.fact 56 (f := .glo "CanNot") rfl), e.1, e.2.1, e.2.2.1, e.2.2.2, He.exm_ok (c.t.d.fact 58 (f := .exm "CanNot" "CanNot" true) rfl), ⟨of_decide_eq_true m1, of_decide_eq_true m2, of_decide_eq_true m3, m4, of_decide_eq_true m5, of_decide_eq_true m6, of_decide_eq_true m7, of_decide_eq_true m8⟩, of_decide_eq_true m9⟩
theorem facts {wt : World} {ht : Heap} {f : Addr} (X : K.In h) (G : h.Ns mainGlobals mg) (hfl : mg ("law" : Str) = some (.ref f)) (c : He.SaysX hfa hfn [] [] hex wt ht K) :
    ∃ fd : FuncData, (∀ (s : Shared) (v : Value), BindsTo s fd ⟨[v], []⟩ [("_law_script", v)]) ∧ ∀ base : Heap, K.In base → base.Ns mainGlobals mg → FnOk P w K mg base CX0 10 f fd ["_law_script"] (sp_law K) := by
  have Z := free_of X G c
  have T := cannot_of X G c
  have a_is_number := at_of X G c 0 0 "is_number" 5 rfl rfl
  have a_is_from := at_of X G c 1 1 "is_from" 6 rfl rfl
  have a_is_within := at_of X G c 2 2 "is_within" 7 rfl rfl
  have a_is_long := at_of X G c 3 3 "is_long" 8 rfl rfl
  have a_tupled := at_of X G c 4 4 "tupled" 9 rfl rfl
  have a_is_guest_of := at_of X G c 5 5 "is_guest_of" 11 rfl rfl
  have a_is_web := at_of X G c 6 6 "is_web" 12 rfl rfl
  have a_sure_web := at_of X G c 7 7 "sure_web" 13 rfl rfl
  have a_sure_guest := at_of X G c 8 8 "sure_guest" 14 rfl rfl
  have a_is_row_in := at_of X G c 9 9 "is_row_in" 16 rfl rfl
  have a_is_order_in := at_of X G c 10 10 "is_order_in" 17 rfl rfl
  have a_sure_order := at_of X G c 11 11 "sure_order" 18 rfl rfl
  have a_seat_in := at_of X G c 12 12 "seat_in" 19 rfl rfl
  have a_seats_in := at_of X G c 13 13 "seats_in" 20 rfl rfl
  have a_seated_in := at_of X G c 14 14 "seated_in" 21 rfl rfl
  have a_sure_three := at_of X G c 15 15 "sure_three" 23 rfl rfl
  have a_without_one := at_of X G c 16 16 "without_one" 24 rfl rfl
  have a_helped_in := at_of X G c 17 17 "helped_in" 25 rfl rfl
  have a_helped := at_of X G c 18 18 "helped" 26 rfl rfl
  have a_helpers := at_of X G c 19 19 "helpers" 27 rfl rfl
  have a_is_harmless := at_of X G c 20 20 "is_harmless" 28 rfl rfl
  have a_harmless := at_of X G c 21 21 "harmless" 29 rfl rfl
  have a_law_box := at_of X G c 22 22 "_law_box" 31 rfl rfl
  have a_law_take := at_of X G c 23 23 "_law_take" 32 rfl rfl
  have a_law_cells := at_of X G c 24 24 "_law_cells" 33 rfl rfl
  have a_law_pick := at_of X G c 25 25 "_law_pick" 34 rfl rfl
  have a_law_lists := at_of X G c 26 26 "_law_lists" 35 rfl rfl
  have a_law_same := at_of X G c 27 27 "_law_same" 36 rfl rfl
  have a_law_seat := at_of X G c 28 28 "_law_seat" 37 rfl rfl
  have a_law_run := at_of X G c 29 29 "_law_run" 38 rfl rfl
  have a_law_walk := at_of X G c 30 30 "_law_walk" 39 rfl rfl
  have a_law_off := at_of X G c 31 31 "_law_off" 40 rfl rfl
  have a_law_busy_net := at_of X G c 32 32 "_law_busy_net" 41 rfl rfl
  have a_law_row_net := at_of X G c 33 33 "_law_row_net" 42 rfl rfl
  have a_law_round_net := at_of X G c 34 34 "_law_round_net" 43 rfl rfl
  have a_law_helped := at_of X G c 35 35 "_law_helped" 44 rfl rfl
  have a_law_heard := at_of X G c 36 36 "_law_heard" 45 rfl rfl
  have a_law_by_hand_right := at_of X G c 37 37 "_law_by_hand_right" 46 rfl rfl
  have a_law_right := at_of X G c 38 38 "_law_right" 47 rfl rfl
  have a_law := at_of X G c 39 39 "law" 48 rfl rfl
  obtain ⟨f2, fd, F, g⟩ := a_law
  have a_law : At K mg "law" 48 := ⟨f2, fd, F, g⟩
  have e := hfl.symm.trans g
  cases e
  have b := FunD.bindsA (ps := ["_law_script"]) F fun _ _ _ _ _ _ us hl => match us, hl with | [_], _ => rfl
  refine ⟨fd, fun s v => b s [v] rfl, fun base _ _ => ?_⟩
  have o_is_number : Has P w K mg base CX0 1 "is_number" ["thing"] sp_is_number := h_is_number a_is_number Z
  have o_is_from : Has P w K mg base CX0 2 "is_from" ["thing", "least"] sp_is_from := h_is_from a_is_from Z o_is_number
  have o_is_within : Has P w K mg base CX0 2 "is_within" ["thing", "least", "most"] sp_is_within := h_is_within a_is_within Z o_is_number
  have o_is_long : Has P w K mg base CX0 1 "is_long" ["thing", "length"] sp_is_long := h_is_long a_is_long Z
  have o_tupled : Has P w K mg base CX0 4 "tupled" ["value"] (sp_tupled 3) := h_tupled a_tupled Z
  have o_is_guest_of : Has P w K mg base CX0 3 "is_guest_of" ["many", "thing"] sp_is_guest_of := h_is_guest_of a_is_guest_of Z o_is_long o_is_within
  have o_is_web : Has P w K mg base CX0 4 "is_web" ["thing"] sp_is_web := h_is_web a_is_web Z o_is_long o_is_from o_is_guest_of
  have o_sure_web : Has P w K mg base CX0 5 "sure_web" ["web"] sp_sure_web := h_sure_web a_sure_web Z o_tupled o_is_web
  have o_sure_guest : Has P w K mg base CX0 3 "sure_guest" ["web", "guest"] sp_sure_guest := h_sure_guest a_sure_guest Z o_is_number o_is_within
  have o_is_row_in : Has P w K mg base CX0 3 "is_row_in" ["web", "thing"] sp_is_row_in := h_is_row_in a_is_row_in Z o_is_within
  have o_is_order_in : Has P w K mg base CX0 4 "is_order_in" ["web", "thing"] sp_is_row_in := h_is_order_in a_is_order_in Z o_is_row_in
  have o_sure_order : Has P w K mg base CX0 5 "sure_order" ["web", "order"] sp_sure_order := h_sure_order a_sure_order Z o_tupled o_is_order_in
  have o_seat_in : Has P w K mg base CX0 1 "seat_in" ["web", "taken", "guest"] sp_seat_in := h_seat_in a_seat_in Z
  have o_seats_in : Has P w K mg base CX0 2 "seats_in" ["web", "row"] sp_seats_in := h_seats_in a_seats_in Z o_seat_in
  have o_seated_in : Has P w K mg base CX0 3 "seated_in" ["web", "row"] sp_run := h_seated_in a_seated_in Z o_seats_in
  have o_sure_three : Has P w K mg base CX0 6 "sure_three" ["web", "order", "guest"] sp_sure_three := h_sure_three a_sure_three Z o_sure_web o_sure_order o_sure_guest
  have o_without_one : Has P w K mg base CX0 1 "without_one" ["order", "guest"] sp_off := h_without_one a_without_one Z
  have o_helped_in : Has P w K mg base CX0 4 "helped_in" ["web", "order", "near", "guest"] sp_helped_in := h_helped_in a_helped_in Z o_without_one o_seated_in
  have o_helped : Has P w K mg base CX0 7 "helped" ["web", "order", "guest"] sp_helped := h_helped a_helped Z o_sure_three o_helped_in o_seated_in
  have o_helpers : Has P w K mg base (L2.CX P w) 7 "helpers" ["web", "order", "guest"] (sp_helpers (He.ga K "CanNot")) := h_helpers a_helpers Z o_sure_three o_seated_in o_helped_in T
  have o_is_harmless : Has P w K mg base CX0 4 "is_harmless" ["web", "order", "near", "guest"] sp_is_harmless := h_is_harmless a_is_harmless Z o_without_one o_seated_in
  have o_harmless : Has P w K mg base CX0 6 "harmless" ["web", "order"] sp_harmless := h_harmless a_harmless Z o_sure_web o_sure_order o_seated_in o_is_harmless
  have o_law_box : Has P w K mg base CX0 1 "_law_box" ["_law_script", "_law_k"] sp_box := h_law_box a_law_box Z
  have o_law_take : Has P w K mg base CX0 1 "_law_take" ["_law_tin", "_law_below_so"] sp_take := h_law_take a_law_take Z
  have o_law_cells : Has P w K mg base CX0 1 "_law_cells" ["_law_script", "_law_most_so"] (sp_cells K) := h_law_cells a_law_cells Z
  have o_law_pick : Has P w K mg base CX0 2 "_law_pick" ["_law_tin", "_law_goods_so", "_law_count_so"] sp_pick := h_law_pick a_law_pick Z o_law_take
  have o_law_lists : Has P w K mg base CX0 4 "_law_lists" ["_law_matter"] (sp_lists 3) := h_law_lists a_law_lists Z
  have o_law_same : Has P w K mg base CX0 4 "_law_same" ["_law_got", "_law_due"] (sp_same 3) := h_law_same a_law_same Z
  have o_law_seat : Has P w K mg base CX0 1 "_law_seat" ["_law_net", "_law_taken_so", "_law_k"] sp_lseat := h_law_seat a_law_seat Z
  have o_law_run : Has P w K mg base CX0 2 "_law_run" ["_law_net", "_law_walk_here"] sp_run := h_law_run a_law_run Z o_law_seat
  have o_law_walk : Has P w K mg base CX0 3 "_law_walk" ["_law_tin", "_law_many_so"] sp_walk := h_law_walk a_law_walk Z o_law_pick
  have o_law_off : Has P w K mg base CX0 1 "_law_off" ["_law_walk_here", "_law_k"] sp_off := h_law_off a_law_off Z
  have o_law_busy_net : Has P w K mg base CX0 3 "_law_busy_net" ["_law_tin", "_law_places_so", "_law_guests_so"] sp_busy := h_law_busy_net a_law_busy_net Z o_law_take o_law_pick
  have o_law_row_net : Has P w K mg base CX0 1 "_law_row_net" [] sp_row_net := h_law_row_net a_law_row_net Z
  have o_law_round_net : Has P w K mg base CX0 1 "_law_round_net" [] sp_round_net := h_law_round_net a_law_round_net Z
  have o_law_helped : Has P w K mg base CX0 3 "_law_helped" ["_law_net", "_law_walk_here", "_law_k"] sp_lhelped := h_law_helped a_law_helped Z o_law_run o_law_off
  have o_law_heard : Has P w K mg base CX0 8 "_law_heard" ["_law_net", "_law_walk_here", "_law_k"] sp_heard := h_law_heard a_law_heard Z o_helpers T
  have o_law_by_hand_right : Has P w K mg base CX0 9 "_law_by_hand_right" [] sp_by_hand := h_law_by_hand_right a_law_by_hand_right Z o_law_same o_law_row_net o_law_round_net o_helped o_harmless o_law_heard o_helpers o_law_lists (kw_helped a_helped o_helped) (kw_helpers a_helpers o_helpers) (kw_harmless a_harmless o_harmless)
  have o_law_right : Has P w K mg base CX0 9 "_law_right" ["_law_tin"] sp_right := h_law_right a_law_right Z o_law_busy_net o_law_walk o_law_pick o_law_run o_law_lists o_law_helped o_law_same o_law_off o_harmless o_helped o_law_heard
  have o_law : Has P w K mg base CX0 10 "law" ["_law_script"] (sp_law K) := h_law a_law Z o_law_by_hand_right o_law_right o_law_box o_law_cells
  exact o_law.ok F g
end
end LW
open PySem PySem.W PySem.Calls PyProof.Rows
theorem PySem.Challenge.cw_leftwithout_k32_whole_who_is_helped_holds : PySem.Challenge.rw_leftwithout_k32_whole_who_is_helped.Holds := by
  w_on; o_law
  refine HandSHeadRun.head_any (r := OpenLaw.row PySem.Challenge.rw_leftwithout_k32_whole_who_is_helped) (q := view (OpenLaw.row PySem.Challenge.rw_leftwithout_k32_whole_who_is_helped).prog [48]) (H := LW.hhk) (ob := LW.hob) (M := 3000) (loose := LW.hloose) (d := HandSHeadRun.topDef (OpenLaw.row PySem.Challenge.rw_leftwithout_k32_whole_who_is_helped).prog 48) (kwd := [])
    LW.hob_eq (by kernel_rfl) (fun s => by kernel_rfl) LW.hrun (by kernel_rfl) (by kernel_rfl) (by kernel_rfl) (by rfl) (by first | assumption | decide +kernel) (by decide +kernel) ⟨rfl, rfl, rfl, rfl, rfl, by decide +kernel⟩ ?hw ?hc
  case hw => w_witness2
  case hc =>
    refine L2.walk_ofE (l := PySem.Challenge.rw_leftwithout_k32_whole_who_is_helped) (n := 63) (k := 10) (x := "_law_script") (CX := L2.CX0) rfl (by decide) (by kernel_rfl) ⟨rfl, by decide, by decide⟩ ?F (fun _ _ _ _ z => z)
    intro w mg fa h Y G hmg0
    obtain ⟨K, KX, c⟩ := Y
    have hmg : mg ("law" : PySem.Str) = some (.ref fa) := by
      have e : (HandSHeadRun.topDef (OpenLaw.row PySem.Challenge.rw_leftwithout_k32_whole_who_is_helped).prog 48).name = ("law" : PySem.Str) := by kernel_rfl
      rw [← e]
      exact hmg0
    obtain ⟨fd, hb, hF⟩ := LW.facts (P := (PySem.Challenge.rw_leftwithout_k32_whole_who_is_helped).prog) (w := w) KX G hmg c
    exact ⟨K, fd, LW.sp_law K, KX, hb, fun H a ns hl _ hS => ⟨a, ns, rfl, hS, hl, fun _ => rfl⟩, hF⟩
