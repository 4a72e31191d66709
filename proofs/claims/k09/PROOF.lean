import PyProof.Rows.All
import Wide.All
import OpenK.AllK
import Wide.FinOn
import PyProof.ReprRoads
import KE.GoesMore
import HandS.ForMost
import HandS.More
import HandS.IsInst
import HandS.TupAny
import HandS.TupMul
import HandS.Style
import HandS.FStr
import HandS.NoneIn
import HandS.Small
import HandS.RaiseMore
import HandS.Walk
import HandS.Codes
import HandS.HeadHook1
import HandS.HeadHook2
import HandS.HeadHook3
import HandS.HeadHook4
import PySem.Challenge.RW_boxlaws_k09_whole_texts_there_and_back
import KE.KEqDat
import HandS.Head0
import HandS.Head1
import HandS.Head2
import HandS.HeadEnd
set_option Elab.async false
set_option linter.all false
set_option maxRecDepth 100000
set_option maxHeartbeats 4000000
/-! new rules: repr of data, extend by a tuple, sum and max of a tuple, max of three, a written dict walked, enumerate of a tuple -/
namespace K9
open PySem PySem.Spec PyProof.Rows L2
section
variable {X : Cx}
/-- repr of data that stands still, where no repr runs around -/
def rRepr (K : PySem.W.Frag) (A : Around) : List V → Hp → VK → Prop := fun xs H Q =>
  ∃ (v : V) (d : PyData), xs = [v] ∧ Dp K H v d ∧ d.showable = true ∧ d.hasDict = false ∧ d.depth ≤ 60 ∧ d.shown.length ≤ sizeLine ∧ Q (.str d.shown) H
theorem repr_any {prog : Program} {w : World} {A : Around} {E : Value → Shared → Prop} {s : Shared} {Q : Value → Shared → Prop} {u : Value} {d : PyData} {as : List Addr}
    (r : Reads s.heap u d as) (hs : d.showable = true) (hd : d.hasDict = false) (hg : A.guards = some []) (hu : A.units + (d.depth + 1) < cLine) (hz : d.shown.length ≤ sizeLine)
    (hQ : ∀ h' t tk, (∀ b o, s.heap.get? b = some o → h'.get? b = some o) → Q (.str d.shown t) { s with heap := h', toks := tk }) : wpAny (model prog w) A (call (.builtin "repr") [u]) Q E s := by
  cases r with
  | none => simp only [PyData.shown] at hQ; exact P.repr_of_none (hQ s.heap _ _ fun _ _ e => e)
  | bool b => simp only [PyData.shown] at hQ; exact P.repr_of_bool (hQ s.heap _ _ fun _ _ e => e)
  | int i t => simp only [PyData.shown] at hQ; exact P.repr_of_int (by simpa [PyData.showable] using hs) (hQ s.heap _ _ fun _ _ e => e)
  | str x t => simp only [PyData.shown] at hQ hz; exact P.repr_of_str (hQ s.heap _ _ fun _ _ e => e) hz
  | list h1 h2 h3 h4 => exact repr_of_reads' (.list h1 h2 h3 h4) hs (PyData.noDict_hsm hd) hg hu (fun _ _ e => e) hQ hz
  | tuple h1 h2 h3 h4 => exact repr_of_reads' (.tuple h1 h2 h3 h4) hs (PyData.noDict_hsm hd) hg hu (fun _ _ e => e) hQ hz
  | dict h1 h2 h3 h4 h5 => simp [PyData.hasDict] at hd
theorem call_repr (hg : X.A.guards = some []) (hu : X.A.units + 64 < cLine) : CallR X (.builtin "repr") (rRepr X.K X.A) := by
  intro pins s σ H xs us Q I r h
  obtain ⟨v, d, rfl, hd, hs, hn, h60, hz, q⟩ := h
  obtain ⟨u, rfl, ru⟩ := r.one
  obtain ⟨as, rd⟩ := Dp.reads I d v u hd ru
  exact repr_any rd hs hn hg (by omega) hz fun h' t tk hk => ⟨.str d.shown, H, I.kept hk, ⟨t, rfl⟩, q⟩

/-- a list extended by a tuple -/
def rExtT (K : PySem.W.Frag) : V → List V → Hp → VK → Prop := fun x vs H Q =>
  ∃ (l b : Addr) (xs zs : List V), x = .ref l ∧ vs = [.ref b] ∧ H l = some (.lst xs) ∧ SqT K H b zs ∧ xs.length + zs.length ≤ sizeLine ∧ Q .non (upd H l (.lst (xs ++ zs)))
theorem ext_tuple (l : Addr) (items : Array Value) (n : Nat) (b : Addr) (dct : Option Addr) (sl : Array (Option Value)) (items2 : Array Value) (n2 : Nat)
    (hs0 : ¬(!items.isEmpty && Builtin.List.listTooLong (items.size + items2.size)) = true) (hs1 : items.size ≤ sizeLine) (hs2 : items.size + items2.size ≤ sizeLine + 1) :
    Meets (Builtin.«list.extend» ⟨[.ref l, .ref b], []⟩) (fun _ R s => s.heap.get? l = some { cls := .type "list", dict := none, data := .seq items n, slots := #[] } ∧
      s.heap.get? b = some { cls := .type "tuple", dict := dct, data := .seq items2 n2, slots := sl } ∧ R (.ok (.ret Value.none)) { s with heap := s.heap.update l (Obj.mapSeq fun x => x ++ items2), toks := s.toks }) :=
  .of_wp fun prog w A R s h => by
    obtain ⟨hp, g, d, tk, os⟩ := s
    obtain ⟨hl, hb, h⟩ := h
    have f2 := AutoSeq1.sub_tuple_tuple
    have f3 := AutoSeq1.sub_list_list
    have f4 := AutoSeq1.sub_tuple_list
    have f5 := AutoSeq1.sub_list_tuple
    have hz' : (items ++ items2).size ≤ sizeLine + 1 := by
      rw [Array.size_append]
      exact hs2
    wp_walk using (wpAny_updateSeq hl rfl (hz := hs1) (_hz' := hz')), AutoSeq1.wpAny_loadPart' hl, AutoSeq1.wpAny_loadPart' hb
    exact ⟨_, rfl, h⟩
theorem mt_extT : MtR X "list.extend" (rExtT X.K) := by
  intro pins s σ H x vs v us Q I rx rv h
  obtain ⟨l, b, xs, zs, rfl, rfl, hH, hB, hz, q⟩ := h
  cases rx
  obtain ⟨u, rfl, ru⟩ := rv.one
  cases ru
  obtain ⟨z, its, n, r, hl, e⟩ := I.lstM hH
  obtain ⟨its2, r2, ⟨⟨cls, dct, data, sl⟩, e2, hc, n2, hd⟩, hz2⟩ := I.tuple hB
  simp only at hc hd
  subst hc hd
  have hl2 := r2.length
  have hsz : its.toArray.size + its2.toArray.size ≤ sizeLine := by
    rw [List.size_toArray, List.size_toArray]
    omega
  have hlong : ¬ (!its.toArray.isEmpty && Builtin.List.listTooLong (its.toArray.size + its2.toArray.size)) = true := by
    rw [notLongL hsz, Bool.and_false]
    exact Bool.false_ne_true
  refine call_meets PySem.F.slot_list_extend ⟨_, e, rfl⟩ PySem.F.entry_list_extend (PySem.F.args_list_extend_2 _ _)
    (ext_tuple l its.toArray n b dct sl its2.toArray n2 hlong (by rw [List.size_toArray]; omega) (by omega)) ⟨e, e2, ?_⟩
  refine ⟨.non, _, I.lset (its' := its ++ its2) hH e (by simp) (r.append r2) ?_, rfl, q⟩
  rw [List.length_append]
  omega
end
end K9

set_option maxHeartbeats 4000000
namespace K9
open PySem PySem.Spec PyProof.Rows L2
section
variable {prog : Program} {w : World} {A : Around} {E : Value → Shared → Prop} {s : Shared} {l : Addr} {xs : Array (Int × Tok)}
theorem iter_intTup {Q : Value → Shared → Prop} (hl : s.heap.IsTuple l (intItems xs))
    (h : ∀ s₂ : Shared, s₂ = { s with heap := s.heap.push { cls := .type "tuple_iterator", data := .fields #[.ref l, .int 0 0] } } →
      (s₂.heap.IsTupleIter s.heap.objs.size l 0 ∧ s₂.heap.IsTuple l (intItems xs)) → (∀ b ∈ [s.heap.objs.size, l], b < s₂.heap.objs.size) → l ≠ s.heap.objs.size → Q (.ref s.heap.objs.size) s₂) :
    wpAny (model prog w) A (pyIter (.ref l)) Q E s := by
  have hlt : l < s.heap.objs.size := by
    obtain ⟨_, e, _⟩ := hl
    exact Heap.lt_size e
  refine wpAny_pyIter_tuple hl (h _ rfl ⟨⟨_, Heap.get?_push_size _ rfl, rfl, rfl⟩, hl.push _⟩ (fun b hb => ?_) (Nat.ne_of_lt hlt))
  show b < (s.heap.push _).objs.size
  rw [Heap.size_push]
  have hb' : b = s.heap.objs.size ∨ b = l := by simpa using hb
  rcases hb' with z | z
  · rw [z]
    exact Nat.lt_succ_self _
  · rw [z]
    exact Nat.lt_succ_of_lt hlt
theorem old_keptT {o : Obj} {h' : Heap} (hk : ∀ b u, b ∉ [s.heap.objs.size] → (s.heap.push o).get? b = some u → h'.get? b = some u) : ∀ b u, s.heap.get? b = some u → h'.get? b = some u := fun b u e =>
  hk b u (fun hm => by
    have z : b = s.heap.objs.size := by simpa using hm
    exact absurd (z ▸ Heap.lt_size e) (Nat.lt_irrefl _)) (Heap.get?_push_of_some _ e)
theorem max_intTup {Q : Value → Shared → Prop} (hh : A.handled = none) (hl : s.heap.IsTuple l (intItems xs)) (hne : 0 < xs.size)
    (h : ∀ v h' tk, (intItems xs)[argBest (fun i j => decide (numAt xs i > numAt xs j)) (xs.size - 1)]? = some v → (∀ b o, s.heap.get? b = some o → h'.get? b = some o) → Q v { s with heap := h', toks := tk }) :
    wpAny (model prog w) A (call (.builtin "max") [.ref l]) Q E s := by
  refine call_max_walk (iter_intTup hl fun s₂ e st hfp hlI => ?_)
  subst e
  refine ⟨_, _, _, _, _, _, _, rfl, Walks.tuple (A := A.in1) hh _ l hlI (intItems xs), st, hfp, by simpa [intItems] using hne, CmpOf.ints_gt (numAt xs) (fun _ _ => intItems_at), fun v h' tk hP hk => ?_⟩
  exact h v h' tk (by simpa [intItems] using hP) (old_keptT hk)
theorem sum_intTup {Q : Value → Shared → Prop} (hh : A.handled = none) (hl : s.heap.IsTuple l (intItems xs))
    (h : ∀ h' tk t', (∀ b o, s.heap.get? b = some o → h'.get? b = some o) → Q (.int (preSum (numAt xs) xs.size) t') { s with heap := h', toks := tk }) :
    wpAny (model prog w) A (call (.builtin "sum") [.ref l]) Q E s := by
  refine call_sum_walkG (iter_intTup hl fun s₂ e st hfp hlI => ?_)
  subst e
  refine ⟨_, _, _, _, _, _, numAt xs, rfl, Walks.tuple (A := A.in1) hh _ l hlI (intItems xs), st, hfp, (fun _ _ => intItems_at), fun h' tk t' hk => ?_⟩
  have q := h h' tk t' (old_keptT hk)
  simpa [intItems] using q
end
section
variable {X : Cx}
/-- sum of a tuple of ints; max of a tuple of ints; max of three ints -/
def rSumT (K : PySem.W.Frag) : List V → Hp → VK → Prop := fun vs H Q => ∃ (a : Addr) (ns : List Int), vs = [V.ref a] ∧ SqT K H a (ns.map V.int) ∧ Q (.int ns.sum) H
def rMaxT (K : PySem.W.Frag) : List V → Hp → VK → Prop := fun vs H Q => ∃ (a : Addr) (ns : List Int), vs = [V.ref a] ∧ SqT K H a (ns.map V.int) ∧ 0 < ns.length ∧ ∀ m, m ∈ ns → Q (.int m) H
def rMax3 : List V → Hp → VK → Prop := fun vs H Q => ∃ a b c : Int, vs = [.int a, .int b, .int c] ∧ ∀ m, Q (.int m) H
theorem cr_sumT (hc : X.calm = true) : CallR X (.builtin "sum") (rSumT X.K) := by
  intro pins s σ H vs us Q I r h
  obtain ⟨a, ns, rfl, hs, q⟩ := h
  obtain ⟨its, rv, ht, _⟩ := I.tuple hs
  rw [Vals.ref1 r]
  obtain ⟨xs, e⟩ := rv.ints.allInts.items
  have hn : numsOf (intItems xs).toList = ns := by rw [← e]; exact rv.ints.numsOf
  rw [nums_intItems] at hn
  have ht' : s.heap.IsTuple a its.toArray := ht
  rw [e] at ht'
  refine sum_intTup (I.ok.hd hc) ht' fun h' tk t' hk => ⟨.int _, H, I.kept hk, ⟨t', rfl⟩, ?_⟩
  rw [preSum_eq, List.take_of_length_le (by simp), hn]
  exact q
theorem cr_maxT (hc : X.calm = true) : CallR X (.builtin "max") (rMaxT X.K) := by
  intro pins s σ H vs us Q I r h
  obtain ⟨a, ns, rfl, hs, hne, q⟩ := h
  obtain ⟨its, rv, ht, _⟩ := I.tuple hs
  rw [Vals.ref1 r]
  obtain ⟨xs, e⟩ := rv.ints.allInts.items
  have hn : numsOf (intItems xs).toList = ns := by rw [← e]; exact rv.ints.numsOf
  rw [nums_intItems] at hn
  subst hn
  have ht' : s.heap.IsTuple a its.toArray := ht
  rw [e] at ht'
  have hsz : 0 < xs.size := by simpa using hne
  refine max_intTup (I.ok.hd hc) ht' hsz fun v h' tk hv hk => ?_
  obtain ⟨t, rfl⟩ := intItems_at hv
  refine ⟨.int _, H, I.kept hk, ⟨t, rfl⟩, q _ ?_⟩
  obtain ⟨h1, h2⟩ := argBest_gt (numAt xs) (xs.size - 1)
  rw [numAt_eq]
  exact PySem.getD_mem (by rw [List.length_map, Array.length_toList]; omega)
theorem call_max3 (hc : X.calm = true) : CallR X (.builtin "max") rMax3 := by
  intro pins s σ H vs us Q I r h
  obtain ⟨a, b, c, rfl, q⟩ := h
  cases r with
  | cons r1 t1 =>
    cases t1 with
    | cons r2 t2 =>
      cases t2 with
      | cons r3 t3 =>
        cases t3
        obtain ⟨t, rfl⟩ := r1
        obtain ⟨u, rfl⟩ := r2
        obtain ⟨x, rfl⟩ := r3
        refine max_three_ints (I.ok.hd hc) fun h' tk k => ?_
        by_cases h1 : b > a
        · rw [if_pos h1]
          by_cases h2 : c > b
          · rw [if_pos h2]
            exact ⟨.int c, H, I.kept k, ⟨_, rfl⟩, q c⟩
          · rw [if_neg h2]
            exact ⟨.int b, H, I.kept k, ⟨_, rfl⟩, q b⟩
        · rw [if_neg h1]
          by_cases h2 : c > a
          · rw [if_pos h2]
            exact ⟨.int c, H, I.kept k, ⟨_, rfl⟩, q c⟩
          · rw [if_neg h2]
            exact ⟨.int a, H, I.kept k, ⟨_, rfl⟩, q a⟩
end
/-! ### a written dict with text keys, walked -/
def litKey : DictEntry → Option Str := fun e => match e.key with
  | .str x _ => some x
  | _ => none
/-- its keys in order -/
def Itw (ks : List Str) : It := ⟨fun i _ => i < ks.length, fun i H x H' => H' = H ∧ ∃ k, ks[i]? = some k ∧ x = .str k, fun i _ => ks.length ≤ i⟩
theorem turn_kd {P : Program} {w : World} {K : PySem.W.Frag} {tg : Expr} {d : Addr} {od : Obj} {es : Array DictEntry} {ep : Nat} {ks : List Str} (it : Addr) (hk : K.lookup d = some od) (hod : od.data = .dict es ep) (hes : es.toList.map litKey = ks.map some) :
    Turn P w K tg (Itw ks) [it] it (fun i h => h.IsKeyIter it d i ks.length ep) where
  mem := by simp
  obj := fun i h st b hb => by
    have e : b = it := by simpa using hb
    subst e
    obtain ⟨oi, e, c, dd⟩ := st
    exact ⟨oi, e, fun v z => by rw [dd] at z; cases z⟩
  keep := fun i h h' st k => st.at fun oi e => k it (by simp) oi e
  item := by
    intro X hP hw hK hc i pins s σ H E I hf st hi
    subst hP hw hK
    obtain ⟨f0, f1, f2, f3, f4, f5⟩ := hf it (by simp)
    have hi' : i < ks.length := hi
    have hsz : es.size = ks.length := by
      have z := congrArg List.length hes
      rw [List.length_map, List.length_map, Array.length_toList] at z
      exact z
    have hx : es[i]? = some (es[i]'(by omega)) := by simp [show i < es.size by omega]
    have hke : litKey (es[i]'(by omega)) = some ks[i] := by
      have z := congrArg (fun l => l[i]?) hes
      simp only [List.getElem?_map, List.getElem?_eq_getElem hi', Option.map_some] at z
      rw [List.getElem?_eq_getElem (by simp; omega)] at z
      simpa using z
    refine next_key_item st (I.kIn d od hk) hod hsz hx fun h' st' sb => ?_
    have I1 : Inv X pins σ H { s with heap := h' } := I.turned (t' := s.toks) (fun b ob hb e => (sb.2 b hb).trans e) f0 f1 f3 f4 f5
    obtain ⟨oi, e, c, dd⟩ := id st'
    refine ⟨_, rfl, go_of (s := { s with heap := h' }) e c dd (by decide) ⟨.str ks[i], H, I1, ?_, ⟨rfl, ks[i], List.getElem?_eq_getElem hi', rfl⟩, st', fun b hb => (hf b hb).1⟩⟩
    unfold litKey at hke
    split at hke
    · rename_i x t q
      rw [q]
      exact ⟨t, by rw [Option.some.inj hke]⟩
    · cases hke
  done := by
    intro X hP hw hK hc i pins s σ H E I hf st hi
    subst hP hw hK
    obtain ⟨f0, f1, f2, f3, f4, f5⟩ := hf it (by simp)
    have hsz : es.size = ks.length := by
      have z := congrArg List.length hes
      rw [List.length_map, List.length_map, Array.length_toList] at z
      exact z
    exact next_key_end (I.ok.hd hc) st (I.kIn d od hk) hod hsz hi fun h' eb => ⟨rfl, I.turned (t' := s.toks) (fun b ob hb e => eb b ob hb e) f0 f1 f3 f4 f5⟩
  self := fun A i s Q E st h => wpAny_pyIter_keyiter st h
/-- a written dict with these text keys stands at d -/
def KKeys (K : PySem.W.Frag) (d : Addr) (ks : List Str) : Prop := ∃ (od : Obj) (es : Array DictEntry) (ep : Nat), (d == sysModules) = false ∧ K.lookup d = some od ∧ od.ExactDict ∧ od.data = .dict es ep ∧ es.toList.map litKey = ks.map some
def iKd (K : PySem.W.Frag) (td : TE) : TI := fun σ H R => td σ H fun x H1 => ∃ d ks, x = .ref d ∧ KKeys K d ks ∧ R (Itw ks) H1
theorem pi_kd {X : Cx} {tg e : Expr} {td : TE} (he : PE X e td) : PI X tg e (iKd X.K td) := by
  refine ⟨fun pins s σ H R I h => ?_⟩
  refine thn (he.run pins s σ H _ I h) fun u s1 ⟨x, H1, I1, rx, d, ks, ex, hk, q⟩ => ?_
  subst ex
  obtain rfl : u = Value.ref d := rx
  obtain ⟨od, es, ep, hd, hl, hx, hdt, hes⟩ := hk
  refine iter_keys hd (I1.kIn d od hl) hx hdt (pi_one (tk := s1.toks) I1 _ (turn_kd _ hl hdt hes) ⟨_, Heap.get?_push_size _ rfl, rfl, ?_⟩ q)
  have z := congrArg List.length hes
  rw [List.length_map, List.length_map, Array.length_toList] at z
  rw [z] <;> rfl
theorem for_kd {ks : List Str} {g : TG} {tb : TS} {D : Ends} {σ : L2.St} {H : Hp} (Pv : Nat → L2.St → Hp → Prop) (h0 : Pv 0 σ H)
    (hs : ∀ i k σ H, ks[i]? = some k → Pv i σ H → g (.str k) σ H fun σ2 H2 => tb { D with nx := Pv (i + 1), ct := Pv (i + 1), bk := D.nx } σ2 H2) (hd : ∀ σ H, Pv ks.length σ H → D.nx σ H) :
    ∃ W : Nat → Nat → L2.St → Hp → Prop, (∃ m, W 0 m σ H) ∧ ∀ i m σ H, W i m σ H →
      ((Itw ks).stop i H ∧ D.nx σ H) ∨ ((Itw ks).go i H ∧ ∃ N : L2.St → Hp → Prop, (∀ σ' H', N σ' H' → ∃ m', m' < m ∧ W (i + 1) m' σ' H') ∧ ∀ x H', (Itw ks).yld i H x H' → g x σ H' fun σ2 H2 => tb { D with nx := N, ct := N, bk := D.nx } σ2 H2) := by
  refine ⟨fun i m σ H => m = ks.length - i ∧ i ≤ ks.length ∧ Pv i σ H, ⟨ks.length, by simp, Nat.zero_le _, h0⟩, ?_⟩
  rintro i m σ H ⟨rfl, hi, p⟩
  by_cases hlt : i < ks.length
  · refine .inr ⟨hlt, Pv (i + 1), fun σ' H' p' => ⟨ks.length - (i + 1), by omega, rfl, hlt, p'⟩, fun x H' y => ?_⟩
    obtain ⟨e, k, hk, ex⟩ := y
    subst e ex
    exact hs i k σ _ hk p
  · have e : i = ks.length := by omega
    subst e
    exact .inl ⟨Nat.le_refl _, hd σ H p⟩
end K9

set_option maxHeartbeats 4000000
namespace K9
open PySem PySem.Spec PyProof.Rows L2
/-! ### enumerate of a tuple -/
theorem meets_enum_tup (t : Addr) (items : Array Value) :
    Meets (Builtin.«enumerate.__new__» ⟨[.type "enumerate", .ref t], []⟩) (fun _ R s => s.heap.IsTuple t items ∧
      R (.ok (.ret (.ref (s.heap.push { cls := .type "tuple_iterator", data := .fields #[.ref t, .int 0 0] }).objs.size)))
        { s with heap := (s.heap.push { cls := .type "tuple_iterator", data := .fields #[.ref t, .int 0 0] }).push { cls := .type "enumerate", data := .fields #[.none, .bool false, .ref s.heap.objs.size, rawInt 0, .none, .none] } }) :=
  .of_wp fun prog w A R s h => by
    obtain ⟨hp, g, d, tk, os⟩ := s
    obtain ⟨h1, h⟩ := h
    have hsub := sub_enumerate
    have q1 : ∀ {A' : Around} {E : Value → Shared → Prop} {Q : Value → Shared → Prop}, Q (.ref hp.objs.size) ⟨hp.push { cls := .type "tuple_iterator", data := .fields #[.ref t, .int 0 0] }, g, d, tk, os⟩ → wpAny (model prog w) A' (pyIter (.ref t)) Q E ⟨hp, g, d, tk, os⟩ :=
      fun q => (begins_tuple t items).iter prog w _ _ ⟨hp, g, d, tk, os⟩ _ h1 q
    wp_walk using q1
    refine wpAny_stack_any fun st => wpAny_pure ?_
    split
    · rename_i c _ _ _ _ _
      cases (c == Value.type "enumerate")
      · wp_walk using q1
        exact ⟨_, rfl, h⟩
      · wp_walk using q1
        exact ⟨_, rfl, h⟩
    · wp_walk using q1
      exact ⟨_, rfl, h⟩
theorem call_enum_tup {prog : Program} {w : World} {A : Around} {E : Value → Shared → Prop} {s : Shared} {t : Addr} {items : Array Value} {Q : Value → Shared → Prop} (hT : s.heap.IsTuple t items)
    (h : ∀ h', IsEnum h' (s.heap.objs.size + 1) s.heap.objs.size 0 .none → h'.IsTupleIter s.heap.objs.size t 0 → h'.objs.size = s.heap.objs.size + 2 →
      (∀ b o, s.heap.get? b = some o → h'.get? b = some o) → Q (.ref (s.heap.objs.size + 1)) { s with heap := h' }) :
    wpAny (model prog w) A (call (.type "enumerate") [.ref t]) Q E s := by
  refine callType_new PySem.F.called_enumerate (by decide) (PySem.F.typeCall_enumerate_1 _) (PySem.F.newCall_enumerate_1 _) (fun obj => PySem.F.args_object_init_2 obj _) PySem.F.entry_enumerate_new (meets_enum_tup t items) ⟨hT, ?_⟩
  have hz : (s.heap.push { cls := .type "tuple_iterator", data := .fields #[.ref t, .int 0 0] }).objs.size = s.heap.objs.size + 1 := Heap.size_push ..
  show _ ∧ _
  rw [hz]
  have he : IsEnum ((s.heap.push { cls := .type "tuple_iterator", data := .fields #[.ref t, .int 0 0] }).push
      { cls := .type "enumerate", data := .fields #[.none, .bool false, .ref s.heap.objs.size, rawInt 0, .none, .none] }) (s.heap.objs.size + 1) s.heap.objs.size 0 .none := by
    have z := Heap.get?_push_size (s.heap.push { cls := .type "tuple_iterator", data := .fields #[.ref t, .int 0 0] })
      (o := { cls := .type "enumerate", data := .fields #[.none, .bool false, .ref s.heap.objs.size, rawInt 0, .none, .none] }) rfl
    rw [hz] at z
    exact z
  exact ⟨⟨_, he, rfl⟩, h _ he ⟨_, Heap.get?_push_of_some _ (Heap.get?_push_size _ rfl), rfl, rfl⟩ (by rw [Heap.size_push, hz]) fun b o x => Heap.get?_push_of_some _ (Heap.get?_push_of_some _ x)⟩
/-- the items of the tuple at a with their places, each in a new pair -/
def ItE (K : PySem.W.Frag) (a : Addr) : It :=
  ⟨fun i H => ∃ (xs : List V) (x : V), SqT K H a xs ∧ xs[i]? = some x,
   fun i H v H' => ∃ T x, v = .ref T ∧ H T = none ∧ H' = upd H T (.tup [.int (i : Nat), x]) ∧ ∀ xs, SqT K H a xs → xs[i]? = some x,
   fun i H => ∃ xs : List V, SqT K H a xs ∧ xs.length ≤ i⟩
theorem turn_enT {P : Program} {w : World} {K : PySem.W.Frag} {elts : List Expr} {kk : Nat} {tpos : Pos} (a e it : Addr) :
    Turn P w K (.Tuple elts kk tpos) (ItE K a) [e, it] e (fun i h => (∃ old, IsEnum h e it ((i : Nat) : Int) old) ∧ h.IsTupleIter it a i ∧ e ≠ it) where
  mem := by simp
  obj := fun i h st b hb => by
    obtain ⟨⟨old, he⟩, ⟨o, ho, hc, hd⟩, _⟩ := st
    have e' : b = e ∨ b = it := by simpa using hb
    rcases e' with z | z
    · rw [z]
      exact ⟨_, he, fun v q => nomatch q⟩
    · rw [z]
      exact ⟨o, ho, fun v q => by rw [hd] at q; cases q⟩
  keep := fun i h h' st k =>
    let ⟨⟨old, he⟩, hi, hne⟩ := st
    ⟨⟨old, k e (by simp) _ he⟩, hi.at fun o q => k it (by simp) o q, hne⟩
  item := by
    intro X hP hw hK hc i pins s σ H E I hf st hg
    subst hP hw hK
    obtain ⟨⟨old, he⟩, hit, hne⟩ := st
    obtain ⟨xs, x, hq, hx⟩ := hg
    obtain ⟨its, rv, p, hz⟩ := I.tuple hq
    obtain ⟨u, hu, ru⟩ := rv.get hx
    have hel : e < s.heap.objs.size := Heap.lt_size he
    have hil : it < s.heap.objs.size := by
      obtain ⟨_, q, _⟩ := hit
      exact Heap.lt_size q
    have pT : s.heap.IsTuple a its.toArray := p
    have hae : e ≠ a := fun z => by
      obtain ⟨o, ho, hc', _⟩ := pT
      rw [← z, he] at ho
      cases ho
      exact absurd hc' (by simp)
    have hai : a ≠ it := fun z => by
      obtain ⟨o, ho, hc', _⟩ := pT
      obtain ⟨o2, ho2, hc2, _⟩ := hit
      rw [z, ho2] at ho
      cases ho
      rw [hc2] at hc'
      exact absurd hc' (by simp)
    have hlt : i < its.toArray.size := by
      have q := (List.getElem?_eq_some_iff.mp hu).1
      simpa using q
    refine wpAny_pyNext_enum_itemD (Draws.tuple (A := X.A.in1) (I.ok.hd hc) it a hai its.toArray) he ⟨hit, pT⟩ hlt hne (fun z => by
      have z' : e = it ∨ e = a := by simpa using z
      exact z'.elim hne hae) fun v h' tk hP ho hit' hT hsz hk => ?_
    have ev : v = u := by
      have q : its[i]? = some v := by simpa using hP
      rw [hu] at q
      exact (Option.some.inj q).symm
    subst ev
    refine ⟨_, rfl, wpAny_letOwnedTupleGo_enum (s := { s with heap := h', toks := tk + 1 }) ho fun h'' he' sb => ?_⟩
    have hT2 : h''.get? s.heap.objs.size = some { cls := .type "tuple", data := .seq #[.int i tk, v] } := (sb.2 _ (Nat.ne_of_gt hel)).trans hT
    have new : ObjOk X.prog X.w (upd H s.heap.objs.size (.tup [.int (i : Nat), x])) h'' s.heap.objs.size (.tup [.int (i : Nat), x]) :=
      ⟨by show 2 ≤ sizeLine; decide, [.int i tk, v], .cons ⟨_, rfl⟩ (.cons ru .nil), ⟨_, hT2, rfl, _, rfl⟩⟩
    have I1 : Inv X pins σ (upd H s.heap.objs.size (.tup [.int (i : Nat), x])) { s with heap := h'', toks := tk + 1 } :=
      I.turnedNew (ch := [e, it]) (fun b ob hb q => (sb.2 b (fun z => hb (by simp [z]))).trans (hk b ob (fun z => hb (by simp [z])) (fun z => hb (by simp [z])) q)) hf (Nat.le_refl _) new
    refine ⟨.ref s.heap.objs.size, _, I1, rfl, ⟨_, x, rfl, I.hok.fresh (Nat.le_refl _), rfl, fun ys hy => by rw [I.tuple_inj hy hq]; exact hx⟩, ⟨⟨v, ?_⟩, hit'.1.at fun o q => (sb.2 it (Ne.symm hne)).trans q, hne⟩, fun b hb => ?_⟩
    · have e1 : ((i + 1 : Nat) : Int) = (i : Int) + 1 := by omega
      rw [e1]
      exact he'
    · have hb' : b < s.heap.objs.size := by
        have e' : b = e ∨ b = it := by simpa using hb
        rcases e' with z | z
        · rw [z]
          exact hel
        · rw [z]
          exact hil
      rw [upd_ne (Nat.ne_of_lt hb')]
      exact (hf b hb).1
  done := by
    intro X hP hw hK hc i pins s σ H E I hf st hg
    subst hP hw hK
    obtain ⟨⟨old, he⟩, hit, hne⟩ := st
    obtain ⟨xs, hq, hx⟩ := hg
    obtain ⟨its, rv, p, hz⟩ := I.tuple hq
    obtain ⟨f0, f1, f2, f3, f4, f5⟩ := hf it (by simp)
    have hl := rv.length
    have pT : s.heap.IsTuple a its.toArray := p
    have hai : a ≠ it := fun z => by
      obtain ⟨o, ho, hc', _⟩ := pT
      obtain ⟨o2, ho2, hc2, _⟩ := hit
      rw [z, ho2] at ho
      cases ho
      rw [hc2] at hc'
      exact absurd hc' (by simp)
    have D : Draws X.prog X.w X.A.in1 it [it, a] 0 (fun _ _ => False) (fun _ h => h.IsTupleIter it a i ∧ h.IsTuple a its.toArray) := by
      have D0 := Draws.tuple (prog := X.prog) (w := X.w) (A := X.A.in1) (I.ok.hd hc) it a hai its.toArray
      exact ⟨fun _ h st' => D0.live i h st', fun _ h h' st' hk' => D0.frame i h h' st' hk', fun j s' Q' E' hj => absurd hj (Nat.not_lt_zero j),
        fun s' Q' E' st' hE' => wpAny_nextOf_tuple_end (I.ok.hd hc) st'.1 st'.2 (by simp; omega) hE'⟩
    exact wpAny_pyNext_enum_endD D he ⟨hit, pT⟩ fun h' eb => ⟨rfl, I.turned (t' := s.toks) (fun b o hb q => eb b o hb q) f0 f1 f3 f4 f5⟩
  self := fun A i s Q E st h => let ⟨⟨_, he⟩, _⟩ := st; wpAny_pyIter_enum he h
def iEnT (K : PySem.W.Frag) (ta : TA) : TI := fun σ H R => ta σ H fun vs H1 => ∃ a xs, vs = [.ref a] ∧ SqT K H1 a xs ∧ R (ItE K a) H1
theorem pi_enT {X : Cx} {e : Expr} {ta : TA} {p pos tpos : Pos} {elts : List Expr} {kk : Nat} (hg : Gl X "enumerate") (hm : X.mg "enumerate" = none) (ha : PA X [e] ta) (hs : starEach [e] X.env = [(false, eval e X.env)] := by rfl) :
    PI X (.Tuple elts kk tpos) (.Call (.Name "enumerate" p) [e] [] pos) (iEnT X.K ta) := by
  refine ⟨fun pins s σ H R I h => ?_⟩
  refine Call_ (ld_blt I hg hm boot_enumerate (PyProof.Rows.callWith_type1 (thn (ha.run pos pins s σ H _ I h) fun us s1 ⟨vs, H1, I1, r1, q1⟩ => ?_) hs rfl))
  obtain ⟨a, xs, ex, hq, q⟩ := q1
  subst ex
  rw [Vals.ref1 r1]
  obtain ⟨its, rv, p', hz⟩ := I1.tuple hq
  refine call_enum_tup (show s1.heap.IsTuple a its.toArray from p') fun h' he hit hsz hk => wpAny_pyIter_enum he ?_
  have I2 : Inv X pins σ H1 { s1 with heap := h' } := I1.kept (t' := s1.toks) hk
  refine ⟨s1.heap.objs.size + 1, [s1.heap.objs.size + 1, s1.heap.objs.size], _, _, H1, rfl, I2, turn_enT a (s1.heap.objs.size + 1) s1.heap.objs.size, ⟨⟨.none, he⟩, hit, Nat.succ_ne_self _⟩, fun b hb => ?_, q⟩
  have e' : b = s1.heap.objs.size + 1 ∨ b = s1.heap.objs.size := by simpa using hb
  have hle : s1.heap.objs.size ≤ b := by
    rcases e' with z | z
    · rw [z]
      exact Nat.le_add_right _ _
    · rw [z]
      exact Nat.le_refl _
  exact I1.fpOk hle (I1.hok.fresh hle)
theorem for_enT {K : PySem.W.Frag} {a : Addr} {xs : List V} {g : TG} {tb : TS} {D : Ends} {σ : L2.St} {H : Hp} (Pv : Nat → L2.St → Hp → Prop) (h0 : Pv 0 σ H) (hl : ∀ i σ H, i ≤ xs.length → Pv i σ H → SqT K H a xs)
    (hs : ∀ (i : Nat) x T σ H, xs[i]? = some x → H T = none → Pv i σ H → g (.ref T) σ (upd H T (.tup [.int (i : Nat), x])) fun σ2 H2 => tb { D with nx := Pv (i + 1), ct := Pv (i + 1), bk := D.nx } σ2 H2) (hd : ∀ σ H, Pv xs.length σ H → D.nx σ H) :
    ∃ W : Nat → Nat → L2.St → Hp → Prop, (∃ m, W 0 m σ H) ∧ ∀ i m σ H, W i m σ H →
      ((ItE K a).stop i H ∧ D.nx σ H) ∨ ((ItE K a).go i H ∧ ∃ N : L2.St → Hp → Prop, (∀ σ' H', N σ' H' → ∃ m', m' < m ∧ W (i + 1) m' σ' H') ∧ ∀ x H', (ItE K a).yld i H x H' → g x σ H' fun σ2 H2 => tb { D with nx := N, ct := N, bk := D.nx } σ2 H2) := by
  refine ⟨fun i m σ H => m = xs.length - i ∧ i ≤ xs.length ∧ Pv i σ H, ⟨xs.length, by simp, Nat.zero_le _, h0⟩, ?_⟩
  rintro i m σ H ⟨rfl, hi, p⟩
  have q := hl i σ H hi p
  by_cases hlt : i < xs.length
  · refine .inr ⟨⟨xs, xs[i], q, by simp [hlt]⟩, Pv (i + 1), fun σ' H' p' => ⟨xs.length - (i + 1), by omega, rfl, hlt, p'⟩, fun x H' y => ?_⟩
    obtain ⟨T, z, e1, e2, e3, y⟩ := y
    subst e1 e3
    exact hs i z T σ H (y xs q) e2 p
  · have e : i = xs.length := by omega
    subst e
    exact .inl ⟨⟨xs, q, Nat.le_refl _⟩, hd σ H p⟩
end K9

set_option maxHeartbeats 4000000
/-! a def that is called where no repr runs around -/
namespace K9
open PySem PySem.Spec PyProof.Rows L2
/-- the promise of a def, asked where no guarded call runs around -/
structure FnG (P : Program) (w : World) (K : PySem.W.Frag) (mg : Str → Option Value) (base : Heap) (k : Nat) (f : Addr) (fd : FuncData) (ps : List Str) (sp : Sp) : Prop where
  len : ∀ vs H Q E, sp vs H Q E → vs.length = ps.length
  run : ∀ (A : Around) (outer : List Env) (s : Shared) (H : Hp) (args : Args) (us : List Value) (vs : List V) (Q : VK) (E : XK),
    Room k A → A.guards = some [] → Env0 P w K mg base A outer s H → BindsTo s fd args (ps.zip us) → Vals vs us → sp vs H Q E →
    codeAny (model P w) A (.call (.ref f) args) (CR CX0 outer P w H s Q E) s
section
variable {P : Program} {w : World} {K : PySem.W.Frag} {mg : Str → Option Value} {base : Heap}
/-- by its body, as Fun.ok -/
theorem okG {x qual : Str} {st : Stmt} {f : Addr} {fd : FuncData} {N ps : List Str} {k : Nat} {sp : Sp} {fn : FuncData} {kV doc pm cdv ct oc dV : Value} {an od : Option Addr} {osl : Array (Option Value)}
    (hfn : fd = PySem.W.fnOf x qual (defArgs st) (defBody st) (defScope st) dV kV doc pm an cdv ct) (lk : K.lookup f = some ⟨oc, od, .func fd, osl⟩) (hcd : PySem.W.codeIn K cdv qual = true)
    (S : FnScope N ps (defScope st)) (len : ∀ vs H Q E, sp vs H Q E → vs.length = ps.length)
    (hbody : ∀ (A : Around) (outer : List Env) (s : Shared) (H : Hp) (vs : List V) (Q : VK) (E : XK), Room k (A.deeper (envOfC qual (defScope st) s.heap.objs.size f cdv)) → A.guards = some [] → sp vs H Q E →
      ∃ t, PSs (cxOf CX0 P w K mg base N qual (defScope st) f cdv A outer s H E).nox (defBody st) t ∧ t { nx := fun _ H' => Q .non H', rt := Q } (start N vs) H) : FnG P w K mg base (k + 1) f fd ps sp := by
  subst hfn
  refine ⟨len, fun A outer s H args us vs Q E hr hgu e0 hb r hsp => ?_⟩
  have hl := len _ _ _ _ hsp
  have kept : ∀ b o, base.get? b = some o → s.heap.get? b = some o := fun b o e => (e0.bs b o e).1
  have KX : K.In s.heap := e0.mod.kin.keeps kept
  have lim : s.heap.NoLimit := e0.mod.nolimit.keeps kept
  have hkind : ∀ y ∈ ps.zip us, (defScope st).names.lookup y.1 = some .local ∨ ((defScope st).names.lookup y.1 = some .cell ∧ ((cellsFrom (s.heap.objs.size + 1) (defScope st).names []).lookup y.1).isSome = true) := by
    rintro ⟨n, v⟩ hy
    exact (S.par n (List.of_mem_zip hy).1).elim Or.inl fun q => Or.inr ⟨q, PySem.W.cellsFrom_some _ _ _ (Or.inl q)⟩
  refine codeAny_call_function hr.depth (KX _ _ lk) rfl S.co S.gen rfl (PySem.W.codeRec_of KX hcd) (hb _ _ _ _ (wpAny_newFunctionEnv_cells S.kind hkind fun env he s1 x => ?_))
  subst he
  obtain ⟨t, ht, hq⟩ := hbody A outer s H vs Q E (hr.deeper _) hgu hsp
  have I := inv_start (CX := CX0) (E := E) S hr.hd e0 hl r x
  refine ⟨lim.keeps x.toInCall.keep, codeAny_func (wpAny_mono (ht.nox.run [] s1 (start N vs) H _ I hq) (fun fl s' hs => ?_) fun e s' hs => hs)⟩
  cases fl with
  | ret u =>
    obtain ⟨v, σ', H', J, rv, q⟩ := hs
    exact ⟨v, H', J.os, J.bare, J.base, J.hok, rv, q⟩
  | next =>
    obtain ⟨σ', H', J, q⟩ := hs
    exact ⟨V.non, H', J.os, J.bare, J.base, J.hok, rfl, q⟩
  | brk =>
    obtain ⟨_, _, _, q⟩ := hs
    exact q.elim
  | cont =>
    obtain ⟨_, _, _, q⟩ := hs
    exact q.elim
theorem FnG.mono {f : Addr} {fd : FuncData} {ps : List Str} {sp : Sp} {j k : Nat} (F : FnG P w K mg base j f fd ps sp) (h : j ≤ k) : FnG P w K mg base k f fd ps sp :=
  ⟨F.len, fun A outer s H args us vs Q E hr => F.run A outer s H args us vs Q E (hr.mono h)⟩
end
section
variable {X : Cx} {k : Nat} {f : Addr} {fd : FuncData} {ps : List Str} {sp : Sp} {E : XK} {x : Str} {p pos : Pos} {e : Expr} {es : List Expr} {t : TA}
/-- f(e, ..) of such a def -/
theorem pe_callG (F : FnG X.prog X.w X.K X.mg X.base k f fd ps sp) (hr : Room k X.A) (hgu : X.A.guards = some []) (hg : Gl X x) (hm : X.mg x = some (.ref f)) (hk : PySem.W.keepIn X.K (.ref f) = true) (hb : Binds X.K fd ps [])
    (ha : PA X (e :: es) t) (hdb : (x == ("__debug__" : Str)) = false := by decide) (he : starEach (e :: es) X.env = (false, eval e X.env) :: starEach es X.env := by rfl) (hpl : (backTo pos (starEach es X.env)).any (·.1) = false := by rfl) :
    PE X (.Call (.Name x p) (e :: es) [] pos) (tCall sp [] E0 t) := by
  refine ⟨fun pins s σ H Q I h => wpAny_Call_Name_kw (ld_glob I hg hm ?_ hdb)⟩
  refine PySem.W.callWith_K (h₀ := X.base) I.ok.mod.kin hk (thn (ha.run pos pins s σ H _ I h) fun us s1 ⟨vs, H1, I1, r, q⟩ => ⟨I1.kIn, ?_⟩) he hpl
  have q' : sp vs H1 Q E0 := by
    have z : sp (vs ++ []) H1 Q E0 := q
    rwa [List.append_nil] at z
  have hl : us.length = ps.length := by rw [← r.length]; exact F.len _ _ _ _ q'
  have hb' := hb s1 us I1.kIn (by rw [List.append_nil]; exact hl)
  rw [List.append_nil] at hb'
  refine wpAny_call (codeAny_mono (F.run X.A X.stack s1 H1 ⟨us, []⟩ us vs Q E0 hr hgu I1.env0 hb' r q') fun r s' hq => ?_)
  cases r with
  | error e => exact hq.elim
  | ok fl =>
    cases fl with
    | ret u => exact I1.after hq
    | next => exact hq.elim
    | brk => exact hq.elim
    | cont => exact hq.elim
end
end K9

set_option maxHeartbeats 4000000
namespace K9
open PySem PySem.Spec PyProof.Rows L2
/-! ### a tuple times 0, 1, more -/
theorem mul0 (l : Addr) (items : Array Value) (n : Nat) (dd : Option Addr) (sl : Array (Option Value)) (u : Tok) (c1 : items.isEmpty = false) :
    Meets (Builtin.«tuple.__mul__» ⟨[.ref l, .int 0 u], []⟩) (fun _ R s => s.heap.get? l = some { cls := .type "tuple", dict := dd, data := .seq items n, slots := sl } ∧
      R (.ok (.ret (Value.ref s.heap.objs.size))) { s with heap := s.heap.push { cls := Value.type "tuple", data := Data.seq #[] }, toks := s.toks }) :=
  .of_wp fun prog w A R s h => by
    obtain ⟨hp, g, d, tk, os⟩ := s
    obtain ⟨hl, h⟩ := h
    have f1 := AutoSeq1.idx_int
    wp_walk using AutoSeq1.wpAny_loadPart' hl
    repeat (first
      | (refine wpAny_ite_false (decide_eq_false (by decide)) ?_; wp_walk using AutoSeq1.wpAny_loadPart' hl)
      | (refine wpAny_ite_false (decide_eq_false (by rw [c1]; decide)) ?_; wp_walk using AutoSeq1.wpAny_loadPart' hl)
      | (refine wpAny_ite_true (decide_eq_true (by decide)) ?_; wp_walk using AutoSeq1.wpAny_loadPart' hl))
    exact ⟨_, rfl, h⟩
theorem mul1 (l : Addr) (items : Array Value) (n : Nat) (dd : Option Addr) (sl : Array (Option Value)) (u : Tok) :
    Meets (Builtin.«tuple.__mul__» ⟨[.ref l, .int 1 u], []⟩) (fun _ R s => s.heap.get? l = some { cls := .type "tuple", dict := dd, data := .seq items n, slots := sl } ∧
      R (.ok (.ret (Value.ref l))) s) :=
  .of_wp fun prog w A R s h => by
    obtain ⟨hp, g, d, tk, os⟩ := s
    obtain ⟨hl, h⟩ := h
    have f1 := AutoSeq1.idx_int
    wp_walk using AutoSeq1.wpAny_loadPart' hl
    repeat (first
      | (refine wpAny_ite_false (decide_eq_false (by decide)) ?_; wp_walk using AutoSeq1.wpAny_loadPart' hl)
      | (refine wpAny_ite_true (decide_eq_true (by simp)) ?_; wp_walk using AutoSeq1.wpAny_loadPart' hl))
    exact ⟨_, rfl, h⟩
def rMulT (K : PySem.W.Frag) : R2 := fun x y H Q => ∃ (l : Addr) (k : Nat) (xs : List V), x = .ref l ∧ y = .int (k : Int) ∧ SqT K H l xs ∧ xs ≠ [] ∧ k ≤ 1000 ∧ xs.length ≤ 1000 ∧
  ∀ p H', (H' = H ∧ SqT K H p (List.replicate k xs).flatten) ∨ (H p = none ∧ H' = upd H p (.tup (List.replicate k xs).flatten)) → Q (.ref p) H'
theorem op_mulT {X : Cx} : OpR X (binaryOp .Mult) (rMulT X.K) := by
  intro pins s σ H x y v u Q I rx ry h
  obtain ⟨l, k, xs, rfl, rfl, hT, hne, h1, hz, q⟩ := h
  by_cases h2 : 2 ≤ k
  · refine op_repT pins s σ H _ _ v u Q I rx ry ⟨l, k, xs, rfl, rfl, hT, hne, by omega, by omega, hz, fun p hp => ?_⟩
    rw [Int.toNat_natCast]
    exact q p _ (.inr ⟨hp, rfl⟩)
  cases rx
  obtain ⟨t, rfl⟩ := ry
  obtain ⟨its, r, ⟨⟨cls, dd, data, sl⟩, ho, hc, n, hd⟩, hs⟩ := I.tuple hT
  simp only at hc hd
  subst hc hd
  have hi : its.toArray.isEmpty = false := by
    cases its with
    | nil => exact absurd (List.eq_nil_of_length_eq_zero r.length) hne
    | cons a b => rfl
  refine wpAny_binaryOp_repeat_ref (T := "tuple") (U := "int") (by decide) ⟨_, ho, rfl⟩ (fun s' => typeIs_int s' k t) noFill_tuple_mul PySem.F.fills_int_mul PySem.F.slot_int_rmul repeat_tuple PySem.F.slot_int_index.lookup
    (call_meets PySem.F.slot_int_rmul (typeIs_int s k t) PySem.F.entry_int_rmul (PySem.F.args_int_rmul_2 _ _) (int_rmul_tuple k t l its.toArray n dd sl) ⟨ho, rfl, ⟨_, ho, rfl⟩, ?_⟩)
  have hk : k = 0 ∨ k = 1 := by omega
  rcases hk with rfl | rfl
  · refine call_meets PySem.F.slot_tuple_mul ⟨_, ho, rfl⟩ PySem.F.entry_tuple_mul (PySem.F.args_tuple_mul_2 _ _) (mul0 l its.toArray n dd sl t hi) ⟨ho, ?_⟩
    refine ⟨.ref s.heap.objs.size, _, I.laid (t' := s.toks) (o := .tup []) (fun b ob q => Heap.get?_push_of_some _ q) (Nat.le_refl _) ⟨Nat.zero_le _, [], .nil, IsTup.new _ _⟩, rfl, q _ _ (.inr ⟨I.hok.fresh (Nat.le_refl _), rfl⟩)⟩
  · refine call_meets PySem.F.slot_tuple_mul ⟨_, ho, rfl⟩ PySem.F.entry_tuple_mul (PySem.F.args_tuple_mul_2 _ _) (mul1 l its.toArray n dd sl t) ⟨ho, ?_⟩
    refine ⟨.ref l, H, I, rfl, q _ _ (.inl ⟨rfl, ?_⟩)⟩
    rw [show (List.replicate 1 xs).flatten = xs by simp]
    exact hT
/-! ### calls: without an argument, by a keyword alone, of a def that is promised under no guard -/
section
variable {X : Cx} {k j : Nat} {x : Str} {sp : Sp} {p pos : Pos} {e : Expr} {es : List Expr} {t tk : TA} {kws : List Keyword}
theorem pe_c0 (c : C8.Cal X.prog X.w X.K X.mg X.base k x sp []) (hr : Room j X.A) (hk : k ≤ j) (hg : Gl X x) (hdb : (x == ("__debug__" : Str)) = false := by decide) : PE X (.Call (.Name x p) [] [] pos) (tCall sp [] E0 tNil) := by
  obtain ⟨f, fd, ps, ds, F, hm, kp, b, d⟩ := c.ex
  exact pe_call0 F (hr.mono hk) hg hm kp b d pass0 hdb
/-- a def of one parameter, called by its name -/
structure CalK (P : Program) (w : World) (K : PySem.W.Frag) (mg : Str → Option Value) (base : Heap) (k : Nat) (x y : Str) (sp : Sp) : Prop where
  ex : ∃ (f : Addr) (fd : FuncData), FnOk P w K mg base CX0 k f fd [y] sp ∧ mg x = some (.ref f) ∧ PySem.W.keepIn K (.ref f) = true ∧ ∀ u : Value, bindArgs fd ⟨[], [(y, u)]⟩ = pure [(y, u)]
theorem pe_ck0 {y : Str} (c : CalK X.prog X.w X.K X.mg X.base k x y sp) (hr : Room j X.A) (hk : k ≤ j) (hg : Gl X x) (hks : (backToKw pos (keywordEach kws X.env)).filterMap (·.1) = [y]) (hkw : PK X kws tk)
    (hall : (backToKw pos (keywordEach kws X.env)).all (·.1.isSome) = true := by rfl) (hdb : (x == ("__debug__" : Str)) = false := by decide)
    (hpl : ((backTo pos (starEach [] X.env)).any (·.1) || (backToKw pos (keywordEach kws X.env)).any (·.1.isNone)) = false := by rfl) :
    PE X (.Call (.Name x p) [] kws pos) (tCall sp [] E0 tk) := by
  obtain ⟨f, fd, F, hm, kp, hb⟩ := c.ex
  refine ⟨fun pins s σ H Q I h => wpAny_Call_Name_kw (ld_glob I hg hm ?_ hdb)⟩
  refine PySem.W.callWith_KW0 (h₀ := X.base) I.ok.mod.kin kp hall (thn (hkw.run pos pins s σ H _ I h) fun us s1 ⟨vs, H1, I1, r, q⟩ => ⟨I1.kIn, ?_⟩) hpl
  have q' : sp vs H1 Q E0 := by
    have z : sp (vs ++ []) H1 Q E0 := q
    rwa [List.append_nil] at z
  have hl : us.length = 1 := by rw [← r.length]; exact F.len _ _ _ _ q'
  obtain ⟨u, rfl⟩ : ∃ u, us = [u] := by
    match us, hl with
    | [u], _ => exact ⟨u, rfl⟩
  rw [hks]
  refine wpAny_call (codeAny_mono (F.run X.A X.stack s1 H1 ⟨[], [(y, u)]⟩ [u] vs Q E0 (hr.mono hk) I1.env0 (.of_eq (hb u)) r q') fun r s' hq => ?_)
  cases r with
  | error e => exact hq.elim
  | ok fl =>
    cases fl with
    | ret u => exact I1.after hq
    | next => exact hq.elim
    | brk => exact hq.elim
    | cont => exact hq.elim
/-- .. promised where no guard stands -/
structure CalG (P : Program) (w : World) (K : PySem.W.Frag) (mg : Str → Option Value) (base : Heap) (k : Nat) (x : Str) (sp : Sp) : Prop where
  ex : ∃ (f : Addr) (fd : FuncData) (ps : List Str), FnG P w K mg base k f fd ps sp ∧ mg x = some (.ref f) ∧ PySem.W.keepIn K (.ref f) = true ∧ Binds K fd ps []
theorem pe_cG (c : CalG X.prog X.w X.K X.mg X.base k x sp) (hr : Room j X.A) (hgu : X.A.guards = some []) (hk : k ≤ j) (hg : Gl X x)
    (ha : PA X (e :: es) t) (hdb : (x == ("__debug__" : Str)) = false := by decide) (he : starEach (e :: es) X.env = (false, eval e X.env) :: starEach es X.env := by rfl) (hpl : (backTo pos (starEach es X.env)).any (·.1) = false := by rfl) :
    PE X (.Call (.Name x p) (e :: es) [] pos) (tCall sp [] E0 t) := by
  obtain ⟨f, fd, ps, F, hm, kp, b⟩ := c.ex
  exact pe_callG F (hr.mono hk) hgu hg hm kp b ha hdb he hpl
/-- str of a text, of an int -/
theorem call_strA : CallR X (.type "str") (fun xs H Q => (∃ a, xs = [.str a] ∧ Q (.str a) H) ∨ ∃ i, xs = [.int i] ∧ i.natAbs.log2 < 1920 ∧ Q (.str (toString i)) H) := CallR.or SkE.call_str_str call_str_int
end
end K9

set_option maxHeartbeats 1000000
/-! the drawings as plain trees: words, ends, form, flat, text -/
namespace K9
inductive D where
  | bx (i k : Nat)
  | br (b : Bool) (ps : List D)
def isnum (i : Nat) : Bool := i == 6 || i == 11
def wds : List String := ["wire", "cross", "copy", "drop", "add", "nought", "times", "uncopy", "undrop", "unadd", "unnought", "untimes", "one", "unone"]
def codes (s : String) : List Nat := s.toList.map Char.toNat
def wl (i : Nat) : List Nat := codes (wds.getD i "")
def eL (i : Nat) : Nat := [1, 2, 1, 1, 2, 0, 1, 2, 0, 1, 1, 1, 0, 1].getD i 0
def eR (i : Nat) : Nat := [1, 2, 2, 0, 1, 1, 1, 1, 1, 2, 0, 1, 1, 0].getD i 0
def BxOk (i k : Nat) : Prop := i < 14 ∧ k ≤ 6 ∧ (isnum i = false → k = 0)
abbrev E0D : D := .br false []
def small : D → Bool
  | .bx _ _ => true
  | .br _ _ => false
/-! ### well-formed, with so many ends -/
mutual
def Tp : D → Nat → Nat → Prop
  | .bx i k, l, r => BxOk i k ∧ l = eL i ∧ r = eR i
  | .br true ps, l, r => ps ≠ [] ∧ Ch ps l r ∧ l ≤ 16 ∧ r ≤ 16
  | .br false ps, l, r => Bs ps l r ∧ l ≤ 16 ∧ r ≤ 16
def Ch : List D → Nat → Nat → Prop
  | [], l, r => l = r
  | d :: ps, l, r => ∃ m, Tp d l m ∧ Ch ps m r
def Bs : List D → Nat → Nat → Prop
  | [], l, r => l = 0 ∧ r = 0
  | d :: ps, l, r => ∃ l1 r1 l2 r2, Tp d l1 r1 ∧ Bs ps l2 r2 ∧ l = l1 + l2 ∧ r = r1 + r2
end
mutual
def en : D → Nat × Nat
  | .bx i _ => (eL i, eR i)
  | .br true ps => (enL ps, enR ps)
  | .br false ps => (sumL ps, sumR ps)
def enL : List D → Nat
  | [] => 0
  | d :: _ => (en d).1
def enR : List D → Nat
  | [] => 0
  | [d] => (en d).2
  | _ :: e :: ps => enR (e :: ps)
def sumL : List D → Nat
  | [] => 0
  | d :: ps => (en d).1 + sumL ps
def sumR : List D → Nat
  | [] => 0
  | d :: ps => (en d).2 + sumR ps
end
/-! ### measures -/
mutual
def nb : D → Nat
  | .bx _ _ => 1
  | .br _ ps => nbs ps
def nbs : List D → Nat
  | [] => 0
  | d :: ps => nb d + nbs ps
end
mutual
def sz : D → Nat
  | .bx _ _ => 1
  | .br _ ps => 1 + szs ps
def szs : List D → Nat
  | [] => 0
  | d :: ps => sz d + szs ps
end
mutual
def dep : D → Nat
  | .bx _ _ => 0
  | .br _ ps => deps ps
/-- one more than the deepest -/
def deps : List D → Nat
  | [] => 0
  | d :: ps => max (1 + dep d) (deps ps)
end
/-! ### without the brackets that are not needed -/
def addD (b : Bool) : D → List D
  | .bx i k => [.bx i k]
  | .br c qs => if c = b then qs else if qs.isEmpty then [] else [.br c qs]
def fin (b : Bool) : List D → D
  | [] => E0D
  | [d] => d
  | d :: e :: ps => .br b (d :: e :: ps)
mutual
def flat : D → D
  | .bx i k => .bx i k
  | .br b ps => fin b (fls b ps)
def fls (b : Bool) : List D → List D
  | [] => []
  | d :: ps => addD b (flat d) ++ fls b ps
end
/-! ### the text -/
def sep (b : Bool) : List Nat := if b then [32, 59, 32] else [32, 124, 32]
def joinL (s : List Nat) : List (List Nat) → List Nat
  | [] => []
  | [x] => x
  | x :: y :: r => x ++ s ++ joinL s (y :: r)
def btxt (i k : Nat) : List Nat := if isnum i then wl i ++ [32, 48 + k] else wl i
mutual
def txt : D → List Nat
  | .bx i k => btxt i k
  | .br b ps => if ps.isEmpty then codes "none" else joinL (sep b) (ptxts ps)
def ptxts : List D → List (List Nat)
  | [] => []
  | .bx i k :: ps => btxt i k :: ptxts ps
  | .br b qs :: ps => (40 :: (txt (.br b qs) ++ [41])) :: ptxts ps
end
def ptx : D → List Nat
  | .bx i k => btxt i k
  | .br b qs => 40 :: (txt (.br b qs) ++ [41])
theorem ptxts_cons (d : D) (ps : List D) : ptxts (d :: ps) = ptx d :: ptxts ps := by
  cases d <;> simp [ptxts, ptx]
/-! ### normal -/
mutual
def Nf : D → Prop
  | .bx _ _ => True
  | .br b ps => 2 ≤ ps.length ∧ Nfs b ps
def Nfs (b : Bool) : List D → Prop
  | [] => True
  | d :: ps => Nf d ∧ (∀ c qs, d = .br c qs → c ≠ b) ∧ Nfs b ps
end
theorem Nfs_app {b : Bool} : ∀ {ps qs : List D}, Nfs b ps → Nfs b qs → Nfs b (ps ++ qs)
  | [], _, _, h => h
  | d :: ps, qs, h, h' => by
    simp only [List.cons_append, Nfs] at h ⊢
    exact ⟨h.1, h.2.1, Nfs_app h.2.2 h'⟩
theorem Nf_fin {b : Bool} {ps : List D} (h : Nfs b ps) : fin b ps = E0D ∨ Nf (fin b ps) := by
  match ps, h with
  | [], _ => exact .inl rfl
  | [d], h => simp only [Nfs] at h; exact .inr h.1
  | d :: e :: ps, h => exact .inr (by simp only [fin, Nf]; exact ⟨by simp, h⟩)
theorem Nfs_add {b : Bool} {d : D} (h : d = E0D ∨ Nf d) : Nfs b (addD b d) := by
  rcases h with rfl | h
  · cases b <;> simp [addD, Nfs]
  · cases d with
    | bx i k => simp [addD, Nfs, Nf]
    | br c qs =>
      simp only [addD]
      split
      · rename_i e
        subst e
        simp only [Nf] at h
        exact h.2
      · rename_i hc
        split
        · simp [Nfs]
        · simp only [Nfs, and_true]
          exact ⟨h, fun c' qs' e => by cases e; exact hc⟩
mutual
theorem flat_nf : ∀ d : D, flat d = E0D ∨ Nf (flat d)
  | .bx i k => .inr (by simp [flat, Nf])
  | .br b ps => by
    simp only [flat]
    exact Nf_fin (fls_nf b ps)
theorem fls_nf (b : Bool) : ∀ ps : List D, Nfs b (fls b ps)
  | [] => by simp [fls, Nfs]
  | d :: ps => by
    simp only [fls]
    exact Nfs_app (Nfs_add (flat_nf d)) (fls_nf b ps)
end
/-! ### ends -/
mutual
theorem Tp_en : ∀ {d : D} {l r : Nat}, Tp d l r → en d = (l, r)
  | .bx i k, l, r, h => by
    simp only [Tp] at h
    simp [en, h.2.1, h.2.2]
  | .br true ps, l, r, h => by
    simp only [Tp] at h
    obtain ⟨h1, h2, _⟩ := h
    have z := Ch_en h2 h1
    simp [en, z.1, z.2]
  | .br false ps, l, r, h => by
    simp only [Tp] at h
    have z := Bs_en h.1
    simp [en, z.1, z.2]
theorem Ch_en : ∀ {ps : List D} {l r : Nat}, Ch ps l r → ps ≠ [] → enL ps = l ∧ enR ps = r
  | [], _, _, _, h => absurd rfl h
  | [d], l, r, h, _ => by
    simp only [Ch] at h
    obtain ⟨m, h1, h2⟩ := h
    have z := Tp_en h1
    subst h2
    simp [enL, enR, z]
  | d :: e :: ps, l, r, h, _ => by
    simp only [Ch] at h
    obtain ⟨m, h1, h2⟩ := h
    have z := Tp_en h1
    have y := Ch_en (ps := e :: ps) (l := m) (r := r) (by simp only [Ch]; exact h2) (by simp)
    exact ⟨by simp [enL, z], by rw [enR]; exact y.2⟩
theorem Bs_en : ∀ {ps : List D} {l r : Nat}, Bs ps l r → sumL ps = l ∧ sumR ps = r
  | [], l, r, h => by
    simp only [Bs] at h
    simp [sumL, sumR, h.1, h.2]
  | d :: ps, l, r, h => by
    simp only [Bs] at h
    obtain ⟨l1, r1, l2, r2, h1, h2, rfl, rfl⟩ := h
    have z := Tp_en h1
    have y := Bs_en h2
    simp [sumL, sumR, z, y.1, y.2]
end
theorem eL_le (i : Nat) : eL i ≤ 2 := by
  unfold eL
  match i with
  | 0 | 1 | 2 | 3 | 4 | 5 | 6 | 7 | 8 | 9 | 10 | 11 | 12 | 13 => decide
  | n + 14 => simp
theorem eR_le (i : Nat) : eR i ≤ 2 := by
  unfold eR
  match i with
  | 0 | 1 | 2 | 3 | 4 | 5 | 6 | 7 | 8 | 9 | 10 | 11 | 12 | 13 => decide
  | n + 14 => simp
theorem Tp_le {d : D} {l r : Nat} (h : Tp d l r) : l ≤ 16 ∧ r ≤ 16 := by
  match d, h with
  | .bx i k, h =>
    simp only [Tp] at h
    have a := eL_le i
    have b := eR_le i
    omega
  | .br true ps, h => simp only [Tp] at h; exact ⟨h.2.2.1, h.2.2.2⟩
  | .br false ps, h => simp only [Tp] at h; exact ⟨h.2.1, h.2.2⟩
theorem Ch_app : ∀ {ps qs : List D} {l m r : Nat}, Ch ps l m → Ch qs m r → Ch (ps ++ qs) l r
  | [], _, _, _, _, h, h' => by simp only [Ch] at h; subst h; exact h'
  | d :: ps, qs, l, m, r, h, h' => by
    simp only [Ch, List.cons_append] at h ⊢
    obtain ⟨n, h1, h2⟩ := h
    exact ⟨n, h1, Ch_app h2 h'⟩
theorem Bs_app : ∀ {ps qs : List D} {l r l' r' : Nat}, Bs ps l r → Bs qs l' r' → Bs (ps ++ qs) (l + l') (r + r')
  | [], _, _, _, _, _, h, h' => by simp only [Bs] at h; obtain ⟨rfl, rfl⟩ := h; simpa using h'
  | d :: ps, qs, l, r, l', r', h, h' => by
    simp only [Bs, List.cons_append] at h ⊢
    obtain ⟨l1, r1, l2, r2, h1, h2, rfl, rfl⟩ := h
    exact ⟨l1, r1, l2 + l', r2 + r', h1, Bs_app h2 h', by omega, by omega⟩
theorem Tp_E0 : Tp E0D 0 0 := by simp [Tp, Bs]
theorem Tp_E0' {l r : Nat} (h : Tp E0D l r) : l = 0 ∧ r = 0 := by
  simp only [Tp, Bs] at h
  exact h.1
/-! ### flat keeps the ends -/
theorem add_nil {b : Bool} {d : D} (h : d = E0D ∨ Nf d) (e : addD b d = []) : d = E0D := by
  rcases h with h | h
  · exact h
  cases d with
  | bx i k => simp [addD] at e
  | br c qs =>
    simp only [Nf] at h
    simp only [addD] at e
    split at e
    · subst e
      simp at h
    · split at e
      · rename_i h2
        cases qs with
        | nil => simp at h
        | cons a l => simp at h2
      · simp at e
theorem Ch_add {d : D} {l m : Nat} (n : d = E0D ∨ Nf d) (h : Tp d l m) : Ch (addD true d) l m := by
  cases d with
  | bx i k => simp only [addD, Ch]; exact ⟨m, h, rfl⟩
  | br c qs =>
    simp only [addD]
    split
    · rename_i e
      subst e
      simp only [Tp] at h
      exact h.2.1
    · rename_i hc
      have ec : c = false := by cases c with | false => rfl | true => exact absurd rfl hc
      subst ec
      split
      · rename_i h2
        have e : qs = [] := by simpa using h2
        subst e
        have z := Tp_E0' h
        simp only [Ch]
        omega
      · simp only [Ch]
        exact ⟨m, h, rfl⟩
theorem Bs_add {d : D} {l r : Nat} (n : d = E0D ∨ Nf d) (h : Tp d l r) : Bs (addD false d) l r := by
  cases d with
  | bx i k => simp only [addD, Bs]; exact ⟨l, r, 0, 0, h, ⟨rfl, rfl⟩, by omega, by omega⟩
  | br c qs =>
    simp only [addD]
    split
    · rename_i e
      subst e
      simp only [Tp] at h
      exact h.1
    · rename_i hc
      have ec : c = true := by cases c with | true => rfl | false => exact absurd rfl hc
      subst ec
      split
      · rename_i h2
        have e : qs = [] := by simpa using h2
        subst e
        simp only [Tp] at h
        exact absurd rfl h.1
      · simp only [Bs]
        exact ⟨l, r, 0, 0, h, ⟨rfl, rfl⟩, by omega, by omega⟩
theorem Tp_finC {ps : List D} {l r : Nat} (h : Ch ps l r) (hl : l ≤ 16) (hr : r ≤ 16) (h0 : ps = [] → l = 0) : Tp (fin true ps) l r := by
  match ps, h, h0 with
  | [], h, h0 =>
    simp only [Ch] at h
    have z := h0 rfl
    subst h z
    exact Tp_E0
  | [d], h, _ =>
    simp only [Ch] at h
    obtain ⟨m, h1, h2⟩ := h
    subst h2
    exact h1
  | d :: e :: ps, h, _ =>
    simp only [fin, Tp]
    exact ⟨by simp, h, hl, hr⟩
theorem Tp_finB {ps : List D} {l r : Nat} (h : Bs ps l r) (hl : l ≤ 16) (hr : r ≤ 16) : Tp (fin false ps) l r := by
  match ps, h with
  | [], h =>
    simp only [Bs] at h
    obtain ⟨rfl, rfl⟩ := h
    exact Tp_E0
  | [d], h =>
    simp only [Bs] at h
    obtain ⟨l1, r1, l2, r2, h1, ⟨rfl, rfl⟩, rfl, rfl⟩ := h
    exact h1
  | d :: e :: ps, h =>
    simp only [fin, Tp]
    exact ⟨h, hl, hr⟩
mutual
theorem Tp_flat : ∀ {d : D} {l r : Nat}, Tp d l r → Tp (flat d) l r
  | .bx i k, l, r, h => by simpa [flat] using h
  | .br true ps, l, r, h => by
    simp only [Tp] at h
    obtain ⟨h1, h2, h3, h4⟩ := h
    have z := Ch_flat h2
    simp only [flat]
    exact Tp_finC z.1 h3 h4 fun e => (z.2 e h1).1
  | .br false ps, l, r, h => by
    simp only [Tp] at h
    obtain ⟨h1, h2, h3⟩ := h
    simp only [flat]
    exact Tp_finB (Bs_flat h1) h2 h3
theorem Ch_flat : ∀ {ps : List D} {l r : Nat}, Ch ps l r → Ch (fls true ps) l r ∧ (fls true ps = [] → ps ≠ [] → l = 0 ∧ r = 0)
  | [], l, r, h => ⟨by simpa [fls] using h, fun _ h => absurd rfl h⟩
  | d :: ps, l, r, h => by
    simp only [Ch] at h
    obtain ⟨m, h1, h2⟩ := h
    have t := Tp_flat h1
    have z := Ch_flat h2
    refine ⟨?_, fun e _ => ?_⟩
    · simp only [fls]
      exact Ch_app (Ch_add (flat_nf d) t) z.1
    · simp only [fls, List.append_eq_nil_iff] at e
      have f := add_nil (flat_nf d) e.1
      rw [f] at t
      have t0 := Tp_E0' t
      refine ⟨t0.1, ?_⟩
      by_cases hp : ps = []
      · subst hp
        simp only [Ch] at h2
        omega
      · exact (z.2 e.2 hp).2
theorem Bs_flat : ∀ {ps : List D} {l r : Nat}, Bs ps l r → Bs (fls false ps) l r
  | [], l, r, h => by simpa [fls] using h
  | d :: ps, l, r, h => by
    simp only [Bs] at h
    obtain ⟨l1, r1, l2, r2, h1, h2, rfl, rfl⟩ := h
    simp only [fls]
    exact Bs_app (Bs_add (flat_nf d) (Tp_flat h1)) (Bs_flat h2)
end
/-! ### measures of flat -/
theorem nbs_app (ps qs : List D) : nbs (ps ++ qs) = nbs ps + nbs qs := by
  induction ps with
  | nil => simp [nbs]
  | cons d ps ih => simp only [List.cons_append, nbs, ih]; omega
theorem szs_app (ps qs : List D) : szs (ps ++ qs) = szs ps + szs qs := by
  induction ps with
  | nil => simp [szs]
  | cons d ps ih => simp only [List.cons_append, szs, ih]; omega
theorem deps_app (ps qs : List D) : deps (ps ++ qs) = max (deps ps) (deps qs) := by
  induction ps with
  | nil => simp [deps]
  | cons d ps ih => simp only [List.cons_append, deps, ih]; omega
theorem nb_fin (b : Bool) (ps : List D) : nb (fin b ps) = nbs ps := by
  match ps with
  | [] => simp [fin, nb, nbs]
  | [d] => simp [fin, nbs]
  | d :: e :: ps => simp [fin, nb]
theorem sz_fin (b : Bool) (ps : List D) : sz (fin b ps) ≤ 1 + szs ps := by
  match ps with
  | [] => simp [fin, sz, szs]
  | [d] => simp [fin, szs]
  | d :: e :: ps => simp [fin, sz]
theorem dep_fin (b : Bool) (ps : List D) : dep (fin b ps) ≤ deps ps := by
  match ps with
  | [] => simp [fin, dep, deps]
  | [d] => simp only [fin, deps]; omega
  | d :: e :: ps => simp [fin, dep]
theorem nbs_add (b : Bool) (d : D) : nbs (addD b d) = nb d := by
  cases d with
  | bx i k => simp [addD, nbs, nb]
  | br c qs =>
    simp only [addD]
    split
    · simp [nb]
    · split
      · rename_i h
        have e : qs = [] := by simpa using h
        subst e
        simp [nb, nbs]
      · simp [nbs]
theorem szs_add (b : Bool) (d : D) : szs (addD b d) ≤ sz d := by
  cases d with
  | bx i k => simp [addD, szs, sz]
  | br c qs =>
    simp only [addD]
    split
    · simp [sz]
    · split
      · simp [szs]
      · simp [szs]
theorem deps_add (b : Bool) (d : D) : deps (addD b d) ≤ 1 + dep d := by
  cases d with
  | bx i k => simp [addD, deps, dep]
  | br c qs =>
    simp only [addD]
    split
    · simp only [dep]; omega
    · split
      · simp [deps]
      · simp only [deps]; omega
mutual
theorem nb_flat : ∀ d : D, nb (flat d) = nb d
  | .bx i k => by simp [flat]
  | .br b ps => by
    simp only [flat, nb_fin, nb]
    exact nb_fls b ps
theorem nb_fls (b : Bool) : ∀ ps : List D, nbs (fls b ps) = nbs ps
  | [] => by simp [fls]
  | d :: ps => by
    simp only [fls, nbs_app, nbs_add, nbs]
    rw [nb_flat d, nb_fls b ps]
end
mutual
theorem sz_flat : ∀ d : D, sz (flat d) ≤ sz d
  | .bx i k => by simp [flat]
  | .br b ps => by
    simp only [flat, sz]
    have h := sz_fin b (fls b ps)
    have h2 := sz_fls b ps
    omega
theorem sz_fls (b : Bool) : ∀ ps : List D, szs (fls b ps) ≤ szs ps
  | [] => by simp [fls]
  | d :: ps => by
    simp only [fls, szs_app, szs]
    have h := szs_add b (flat d)
    have h1 := sz_flat d
    have h2 := sz_fls b ps
    omega
end
mutual
theorem dep_flat : ∀ d : D, dep (flat d) ≤ dep d
  | .bx i k => by simp [flat]
  | .br b ps => by
    simp only [flat, dep]
    have h := dep_fin b (fls b ps)
    have h2 := dep_fls b ps
    omega
theorem dep_fls (b : Bool) : ∀ ps : List D, deps (fls b ps) ≤ deps ps
  | [] => by simp [fls]
  | d :: ps => by
    simp only [fls, deps_app, deps]
    have h := deps_add b (flat d)
    have h1 := dep_flat d
    have h2 := dep_fls b ps
    omega
end
/-! ### every bracket has at most 400 parts -/
mutual
def Ln : D → Prop
  | .bx _ _ => True
  | .br _ ps => ps.length ≤ 400 ∧ Lns ps
def Lns : List D → Prop
  | [] => True
  | d :: ps => Ln d ∧ Lns ps
end
theorem len_szs (ps : List D) : ps.length ≤ szs ps := by
  induction ps with
  | nil => simp
  | cons d ps ih =>
    have h : 1 ≤ sz d := by cases d <;> simp [sz]
    simp only [List.length_cons, szs]
    omega
mutual
theorem Ln_sz : ∀ d : D, sz d ≤ 400 → Ln d
  | .bx _ _, _ => by simp [Ln]
  | .br b ps, h => by
    simp only [sz] at h
    have z := len_szs ps
    simp only [Ln]
    exact ⟨by omega, Lns_sz ps (by omega)⟩
theorem Lns_sz : ∀ ps : List D, szs ps ≤ 400 → Lns ps
  | [], _ => by simp [Lns]
  | d :: ps, h => by
    simp only [szs] at h
    simp only [Lns]
    exact ⟨Ln_sz d (by omega), Lns_sz ps (by omega)⟩
end
mutual
theorem nb_pos : ∀ d : D, Nf d → 1 ≤ nb d
  | .bx _ _, _ => by simp [nb]
  | .br b ps, h => by
    simp only [Nf] at h
    have z := nbs_len b ps h.2
    simp only [nb]
    omega
theorem nbs_len (b : Bool) : ∀ ps : List D, Nfs b ps → ps.length ≤ nbs ps
  | [], _ => by simp
  | d :: ps, h => by
    simp only [Nfs] at h
    have z := nb_pos d h.1
    have y := nbs_len b ps h.2.2
    simp only [List.length_cons, nbs]
    omega
end
mutual
theorem Ln_nb : ∀ d : D, Nf d → nb d ≤ 400 → Ln d
  | .bx _ _, _, _ => by simp [Ln]
  | .br b ps, h, h4 => by
    simp only [Nf] at h
    simp only [nb] at h4
    have z := nbs_len b ps h.2
    simp only [Ln]
    exact ⟨by omega, Lns_nb b ps h.2 h4⟩
theorem Lns_nb (b : Bool) : ∀ ps : List D, Nfs b ps → nbs ps ≤ 400 → Lns ps
  | [], _, _ => by simp [Lns]
  | d :: ps, h, h4 => by
    simp only [Nfs] at h
    simp only [nbs] at h4
    simp only [Lns]
    exact ⟨Ln_nb d h.1 (by omega), Lns_nb b ps h.2.2 (by omega)⟩
end
theorem Ln_flat {d : D} (h : nb d ≤ 400) : Ln (flat d) := by
  rcases flat_nf d with e | e
  · rw [e]
    simp [Ln, Lns]
  · exact Ln_nb _ e (by rw [nb_flat]; exact h)
end K9

set_option maxHeartbeats 1000000
/-! reading a text back -/
namespace K9
/-- the small boxes in the order in which they are tried -/
def BX : List (Nat × Nat) := (List.range 14).flatMap fun i => if isnum i then (List.range 7).map fun k => (i, k) else [(i, 0)]
def isPre : List Nat → List Nat → Bool
  | [], _ => true
  | _ :: _, [] => false
  | a :: p, b :: r => a == b && isPre p r
theorem isPre_iff : ∀ {p r : List Nat}, isPre p r = true ↔ ∃ s, r = p ++ s
  | [], r => by simp [isPre]
  | a :: p, [] => by simp [isPre]
  | a :: p, b :: r => by
    simp only [isPre, Bool.and_eq_true, beq_iff_eq, isPre_iff (p := p) (r := r), List.cons_append, List.cons.injEq]
    constructor
    · rintro ⟨rfl, s, rfl⟩
      exact ⟨s, rfl, rfl⟩
    · rintro ⟨s, rfl, rfl⟩
      exact ⟨rfl, s, rfl⟩
/-- the box whose text stands at the beginning, the rest -/
def boxIn (r : List Nat) : List (Nat × Nat) → Option (D × List Nat)
  | [] => none
  | (i, k) :: bs => if isPre (btxt i k) r then some (.bx i k, r.drop (btxt i k).length) else boxIn r bs
def boxAt (r : List Nat) : Option (D × List Nat) := boxIn r BX
/-- two texts of which none is the beginning of the other -/
def apart (p q : List Nat) : Bool := !isPre p q && !isPre q p
theorem pre_cases {p q s t : List Nat} (h : p ++ s = q ++ t) : isPre p q = true ∨ isPre q p = true := by
  rcases Nat.le_total p.length q.length with z | z
  · refine .inl (isPre_iff.mpr ⟨q.drop p.length, ?_⟩)
    have e : q.take p.length = p := by
      have e1 : (q ++ t).take p.length = q.take p.length := List.take_append_of_le_length z
      rw [← e1, ← h, List.take_left']
      rfl
    conv => lhs; rw [← List.take_append_drop p.length q, e]
  · refine .inr (isPre_iff.mpr ⟨p.drop q.length, ?_⟩)
    have e : p.take q.length = q := by
      have e1 : (p ++ s).take q.length = p.take q.length := List.take_append_of_le_length z
      rw [← e1, h, List.take_left']
      rfl
    conv => lhs; rw [← List.take_append_drop q.length p, e]
theorem BX_apart : (BX.all fun p => BX.all fun q => p == q || apart (btxt p.1 p.2) (btxt q.1 q.2)) = true := by decide +kernel
theorem BX_mem {i k : Nat} (h : BxOk i k) : (i, k) ∈ BX := by
  obtain ⟨h1, h2, h3⟩ := h
  have e : ((List.range 14).all fun i => (List.range 7).all fun k => (!isnum i && k != 0) || BX.contains (i, k)) = true := by decide +kernel
  have e1 := List.all_eq_true.mp (List.all_eq_true.mp e i (by simp; omega)) k (by simp; omega)
  cases hn : isnum i with
  | true => simpa [hn] using e1
  | false =>
    have z := h3 hn
    subst z
    simpa [hn] using e1
theorem boxIn_found {i k : Nat} {s : List Nat} : ∀ {bs : List (Nat × Nat)}, (∀ q ∈ bs, q = (i, k) ∨ apart (btxt i k) (btxt q.1 q.2) = true) → (i, k) ∈ bs → boxIn (btxt i k ++ s) bs = some (.bx i k, s)
  | [], _, h => by simp at h
  | (j, m) :: bs, ha, hm => by
    simp only [boxIn]
    by_cases e : (j, m) = (i, k)
    · obtain ⟨rfl, rfl⟩ := Prod.mk.inj e
      rw [if_pos (isPre_iff.mpr ⟨s, rfl⟩)]
      simp
    · rw [if_neg]
      · rcases List.mem_cons.mp hm with z | z
        · exact absurd z.symm e
        · exact boxIn_found (fun q hq => ha q (List.mem_cons_of_mem _ hq)) z
      · intro hp
        obtain ⟨t, ht⟩ := isPre_iff.mp hp
        have z := ha (j, m) (List.mem_cons_self ..)
        rcases z with z | z
        · exact e z
        · simp only [apart, Bool.and_eq_true, Bool.not_eq_true'] at z
          rcases pre_cases ht with y | y
          · rw [y] at z; simp at z
          · rw [y] at z; simp at z
theorem boxAt_bx {i k : Nat} (h : BxOk i k) (s : List Nat) : boxAt (btxt i k ++ s) = some (.bx i k, s) := by
  refine boxIn_found (fun q hq => ?_) (BX_mem h)
  have e := List.all_eq_true.mp (List.all_eq_true.mp BX_apart (i, k) (BX_mem h)) q hq
  simp only [Bool.or_eq_true, beq_iff_eq] at e
  exact e.imp (fun z => z.symm) id
theorem BX_noparen : (BX.all fun p => !isPre (btxt p.1 p.2) [40] && (btxt p.1 p.2).head? != some 40 && (btxt p.1 p.2).length != 0) = true := by decide +kernel
theorem boxIn_paren {s : List Nat} : ∀ {bs : List (Nat × Nat)}, (∀ p ∈ bs, (btxt p.1 p.2).head? ≠ some 40 ∧ (btxt p.1 p.2).length ≠ 0) → boxIn (40 :: s) bs = none
  | [], _ => rfl
  | (i, k) :: bs, h => by
    simp only [boxIn]
    rw [if_neg, boxIn_paren fun p hp => h p (List.mem_cons_of_mem _ hp)]
    intro hp
    obtain ⟨t, ht⟩ := isPre_iff.mp hp
    have z := h (i, k) (List.mem_cons_self ..)
    cases e : btxt i k with
    | nil => rw [e] at z; simp at z
    | cons a l =>
      rw [e] at z ht
      simp only [List.cons_append, List.cons.injEq] at ht
      rw [← ht.1] at z
      simp at z
theorem boxAt_paren (s : List Nat) : boxAt (40 :: s) = none := by
  refine boxIn_paren fun p hp => ?_
  have e := List.all_eq_true.mp BX_noparen p hp
  simp only [Bool.and_eq_true, bne_iff_ne, ne_eq] at e
  exact ⟨e.1.2, e.2⟩
theorem btxt_head {i k : Nat} (h : BxOk i k) : ∃ c l, btxt i k = c :: l ∧ c ≠ 40 := by
  have e := List.all_eq_true.mp BX_noparen (i, k) (BX_mem h)
  simp only [Bool.and_eq_true, bne_iff_ne, ne_eq] at e
  cases q : btxt i k with
  | nil => rw [q] at e; simp at e
  | cons a l =>
    rw [q] at e
    exact ⟨a, l, rfl, fun z => by subst z; simp at e⟩
/-! ### the reading, turn by turn: opened brackets (the innermost first), what is left -/
abbrev Stk := List (Bool × List D)
def openS : Stk → Stk
  | [] => []
  | (b, ps) :: st => (!b, []) :: (b, ps) :: st
def pushS (d : D) : Stk → Stk
  | [] => []
  | (b, ps) :: st => (b, ps ++ [d]) :: st
def closeS : Stk → List Nat → Stk × List Nat
  | (b, ps) :: (c, qs) :: st, 41 :: r => if 1 < ps.length then closeS ((c, qs ++ [.br b ps]) :: st) r else ((b, ps) :: (c, qs) :: st, 41 :: r)
  | st, r => (st, r)
termination_by _ r => r.length
def topB : Stk → Bool
  | [] => false
  | (b, _) :: _ => b
/-- whether a bracket is opened here -/
def opens (st : Stk) (r : List Nat) : Bool := r.head? == some 40 && decide (st.length < 12)
/-- none: the fuel is out; some none: not of the form; some (some st): at the end -/
def run : Nat → Stk → List Nat → Option (Option Stk)
  | 0, _, _ => none
  | n + 1, st, r =>
    if opens st r then run n (openS st) r.tail
    else match boxAt r with
      | none => some none
      | some (d, r1) =>
        let c := closeS (pushS d st) r1
        if c.2.isEmpty then some (some c.1)
        else if isPre (sep (topB c.1)) c.2 then run n c.1 (c.2.drop 3) else some none
/-- behind a box -/
def after (n : Nat) (st : Stk) (r : List Nat) : Option (Option Stk) :=
  let c := closeS st r
  if c.2.isEmpty then some (some c.1)
  else if isPre (sep (topB c.1)) c.2 then run n c.1 (c.2.drop 3) else some none
theorem run_box {n i k : Nat} {st : Stk} {s : List Nat} (h : BxOk i k) : run (n + 1) st (btxt i k ++ s) = after n (pushS (.bx i k) st) s := by
  obtain ⟨c, l, e, hc⟩ := btxt_head h
  have o : opens st (btxt i k ++ s) = false := by
    rw [e]
    simp [opens, hc]
  rw [run, if_neg (by rw [o]; simp), boxAt_bx h]
  rfl
theorem run_open {n : Nat} {st : Stk} {s : List Nat} (h : st.length < 12) : run (n + 1) st (40 :: s) = run n (openS st) s := by
  have o : opens st (40 :: s) = true := by simp [opens, h]
  rw [run, if_pos o]
  rfl
theorem run_deep {n : Nat} {st : Stk} {s : List Nat} (h : ¬ st.length < 12) : run (n + 1) st (40 :: s) = some none := by
  have o : opens st (40 :: s) = false := by simp [opens, h]
  rw [run, if_neg (by rw [o]; simp), boxAt_paren]
theorem after_close {n : Nat} {b c : Bool} {ps qs : List D} {st : Stk} {s : List Nat} (h : 1 < ps.length) : after n ((b, ps) :: (c, qs) :: st) (41 :: s) = after n ((c, qs ++ [.br b ps]) :: st) s := by
  have e : closeS ((b, ps) :: (c, qs) :: st) (41 :: s) = closeS ((c, qs ++ [.br b ps]) :: st) s := by
    rw [closeS, if_pos h]
  unfold after
  rw [e]
theorem close_other {st : Stk} {c : Nat} {s : List Nat} (h : c ≠ 41) : closeS st (c :: s) = (st, c :: s) := by
  unfold closeS
  split
  · rename_i e
    simp at e
    exact absurd e.1 h
  · rfl
theorem sep_head (b : Bool) : ∃ l, sep b = 32 :: l ∧ (sep b).length = 3 := by cases b <;> exact ⟨_, rfl, rfl⟩
theorem after_sep {n : Nat} {b : Bool} {ps : List D} {st : Stk} {s : List Nat} : after n ((b, ps) :: st) (sep b ++ s) = run n ((b, ps) :: st) s := by
  obtain ⟨l, e, hl⟩ := sep_head b
  have q : closeS ((b, ps) :: st) (sep b ++ s) = ((b, ps) :: st, sep b ++ s) := by
    rw [e]
    exact close_other (by decide)
  unfold after
  simp only [q, topB]
  rw [if_neg (by rw [e]; simp), if_pos (isPre_iff.mpr ⟨s, rfl⟩)]
  rw [← hl]
  simp
theorem after_wrong {n : Nat} {b : Bool} {ps : List D} {st : Stk} {s : List Nat} : after n ((!b, ps) :: st) (sep b ++ s) = some none := by
  obtain ⟨l, e, hl⟩ := sep_head b
  have q : closeS ((!b, ps) :: st) (sep b ++ s) = ((!b, ps) :: st, sep b ++ s) := by
    rw [e]
    exact close_other (by decide)
  unfold after
  simp only [q, topB]
  rw [if_neg (by rw [e]; simp), if_neg]
  cases b <;> simp [sep, isPre]
theorem after_end {n : Nat} {st : Stk} : after n st [] = some (some st) := by
  have q : closeS st [] = (st, []) := by
    unfold closeS
    split
    · rename_i e; simp at e
    · rfl
  unfold after
  rw [q]
  rfl
/-! ### a text is read back -/
mutual
def BxA : D → Prop
  | .bx i k => BxOk i k
  | .br _ ps => BxAs ps
def BxAs : List D → Prop
  | [] => True
  | d :: ps => BxA d ∧ BxAs ps
end
theorem joinL_cons (s x : List Nat) {r : List (List Nat)} (h : r ≠ []) : joinL s (x :: r) = x ++ s ++ joinL s r := by
  cases r with
  | nil => exact absurd rfl h
  | cons y r => rfl
mutual
/-- how many turns the text of a part takes -/
def tn : D → Nat
  | .bx _ _ => 1
  | .br _ ps => 1 + tns ps
def tns : List D → Nat
  | [] => 0
  | d :: ps => tn d + tns ps
end
mutual
theorem read_part : ∀ (d : D) (b : Bool) (ps : List D) (st : Stk) (s : List Nat) (n : Nat), Nf d → BxA d → (∀ c qs, d = .br c qs → c ≠ b) → st.length + 1 + dep d ≤ 12 →
    run (n + tn d) ((b, ps) :: st) (ptx d ++ s) = after n ((b, ps ++ [d]) :: st) s
  | .bx i k, b, ps, st, s, n, _, hb, _, _ => by
    simp only [BxA] at hb
    simp only [tn, ptx]
    rw [run_box hb]
    rfl
  | .br c qs, b, ps, st, s, n, hn, hb, hc, hd => by
    have hcb : c = !b := by
      have z := hc c qs rfl
      cases c <;> cases b <;> simp_all
    subst hcb
    simp only [Nf] at hn
    simp only [BxA] at hb
    simp only [dep] at hd
    have e : qs ≠ [] := fun z => by subst z; simp at hn
    have h0 : qs.isEmpty = false := by cases qs with
      | nil => exact absurd rfl e
      | cons a l => rfl
    have d1 : 1 ≤ deps qs := by cases qs with
      | nil => exact absurd rfl e
      | cons a l => simp only [deps]; omega
    simp only [tn, ptx, txt, h0]
    rw [show n + (1 + tns qs) = (n + tns qs) + 1 by omega]
    show run _ _ (40 :: ((joinL (sep (!b)) (ptxts qs) ++ [41]) ++ s)) = _
    rw [run_open (by simp; omega), List.append_assoc]
    show run _ ((!b, []) :: (b, ps) :: st) (joinL (sep (!b)) (ptxts qs) ++ 41 :: s) = _
    rw [read_parts qs (!b) [] ((b, ps) :: st) (41 :: s) n hn.2 hb e (by simp; omega), List.nil_append, after_close (by omega)]
theorem read_parts : ∀ (qs : List D) (b : Bool) (ps : List D) (st : Stk) (s : List Nat) (n : Nat), Nfs b qs → BxAs qs → qs ≠ [] → st.length + deps qs ≤ 12 →
    run (n + tns qs) ((b, ps) :: st) (joinL (sep b) (ptxts qs) ++ s) = after n ((b, ps ++ qs) :: st) s
  | [], _, _, _, _, _, _, _, h, _ => absurd rfl h
  | [d], b, ps, st, s, n, hn, hb, _, hd => by
    simp only [Nfs] at hn
    simp only [BxAs] at hb
    simp only [deps] at hd
    rw [ptxts_cons]
    show run (n + tns [d]) _ (ptx d ++ s) = _
    rw [show n + tns [d] = n + tn d by simp [tns]]
    exact read_part d b ps st s n hn.1 hb.1 hn.2.1 (by omega)
  | d :: e :: qs, b, ps, st, s, n, hn, hb, _, hd => by
    rw [Nfs] at hn
    rw [BxAs] at hb
    rw [deps] at hd
    rw [ptxts_cons, joinL_cons _ _ (by rw [ptxts_cons]; simp), List.append_assoc, List.append_assoc,
      show n + tns (d :: e :: qs) = (n + tns (e :: qs)) + tn d by rw [tns]; omega]
    rw [read_part d b ps st _ _ hn.1 hb.1 hn.2.1 (by omega), after_sep, read_parts (e :: qs) b (ps ++ [d]) st s n hn.2.2 hb.2 (by simp) (by omega)]
    simp
end
/-- a text read with the wrong outer word is not of the form -/
theorem read_wrong : ∀ (qs : List D) (b : Bool) (st : Stk) (s : List Nat), Nfs b qs → BxAs qs → 2 ≤ qs.length → ∃ k, ∀ n, run (n + k) ((!b, []) :: st) (joinL (sep b) (ptxts qs) ++ s) = some none
  | [], _, _, _, _, _, h => by simp at h
  | [d], _, _, _, _, _, h => by simp at h
  | .bx i k :: e :: qs, b, st, s, hn, hb, _ => by
    rw [BxAs, BxA] at hb
    refine ⟨1, fun n => ?_⟩
    rw [ptxts_cons, joinL_cons _ _ (by rw [ptxts_cons]; simp), List.append_assoc, List.append_assoc]
    show run (n + 1) _ (btxt i k ++ _) = _
    rw [run_box hb.1]
    exact after_wrong
  | .br c rs :: e :: qs, b, st, s, hn, hb, _ => by
    rw [Nfs, Nf] at hn
    rw [BxAs, BxA] at hb
    have hcb : c = !b := by
      have z := hn.2.1 c rs rfl
      cases c <;> cases b <;> simp_all
    subst hcb
    have h0 : rs.isEmpty = false := by cases rs with
      | nil => simp at hn
      | cons a l => rfl
    have ep : ptx (.br (!b) rs) = 40 :: (joinL (sep (!b)) (ptxts rs) ++ [41]) := by simp [ptx, txt, h0]
    by_cases hl : st.length + 1 < 12
    · obtain ⟨k, hk⟩ := read_wrong rs (!b) ((!b, []) :: st) ([41] ++ (sep b ++ (joinL (sep b) (ptxts (e :: qs)) ++ s))) hn.1.2 hb.1 hn.1.1
      refine ⟨k + 1, fun n => ?_⟩
      rw [ptxts_cons, joinL_cons _ _ (by rw [ptxts_cons]; simp), List.append_assoc, List.append_assoc, ep, ← Nat.add_assoc]
      show run _ _ (40 :: ((joinL (sep (!b)) (ptxts rs) ++ [41]) ++ _)) = _
      rw [run_open (by simpa using hl), List.append_assoc]
      exact hk n
    · refine ⟨1, fun n => ?_⟩
      rw [ptxts_cons, joinL_cons _ _ (by rw [ptxts_cons]; simp), List.append_assoc, List.append_assoc, ep]
      exact run_deep (by simpa using hl)
end K9

set_option maxHeartbeats 1000000
/-! the whole text read; texts that are alike; lengths -/
namespace K9
mutual
theorem Tp_BxA : ∀ {d : D} {l r : Nat}, Tp d l r → BxA d
  | .bx i k, l, r, h => by simp only [Tp] at h; simp only [BxA]; exact h.1
  | .br true ps, l, r, h => by simp only [Tp] at h; simp only [BxA]; exact Ch_BxA h.2.1
  | .br false ps, l, r, h => by simp only [Tp] at h; simp only [BxA]; exact Bs_BxA h.1
theorem Ch_BxA : ∀ {ps : List D} {l r : Nat}, Ch ps l r → BxAs ps
  | [], _, _, _ => by simp [BxAs]
  | d :: ps, l, r, h => by
    simp only [Ch] at h
    obtain ⟨m, h1, h2⟩ := h
    simp only [BxAs]
    exact ⟨Tp_BxA h1, Ch_BxA h2⟩
theorem Bs_BxA : ∀ {ps : List D} {l r : Nat}, Bs ps l r → BxAs ps
  | [], _, _, _ => by simp [BxAs]
  | d :: ps, l, r, h => by
    simp only [Bs] at h
    obtain ⟨l1, r1, l2, r2, h1, h2, _, _⟩ := h
    simp only [BxAs]
    exact ⟨Tp_BxA h1, Bs_BxA h2⟩
end
/-- the outer word by which a drawing is read, and its parts -/
def outW : D → Bool
  | .bx _ _ => true
  | .br b _ => b
def outP : D → List D
  | .bx i k => [.bx i k]
  | .br _ ps => ps
def ofOut (b : Bool) : List D → D
  | [d] => d
  | ps => .br b ps
theorem ofOut_eq {d : D} (h : Nf d) : ofOut (outW d) (outP d) = d := by
  cases d with
  | bx i k => rfl
  | br b ps =>
    simp only [Nf] at h
    match ps, h with
    | [], h => simp at h
    | [x], h => simp at h
    | x :: y :: r, _ => rfl
theorem read_whole {d : D} (hn : Nf d) (hb : BxA d) (hd : dep d ≤ 12) : ∃ k, ∀ n, run (n + k) [(outW d, [])] (txt d) = some (some [(outW d, outP d)]) := by
  cases d with
  | bx i k =>
    simp only [BxA] at hb
    refine ⟨1, fun n => ?_⟩
    have e := run_box (n := n) (st := [(true, [])]) (s := []) hb
    simp only [List.append_nil] at e
    simp only [txt, outW, outP]
    rw [e]
    exact after_end
  | br b ps =>
    simp only [Nf] at hn
    simp only [BxA] at hb
    simp only [dep] at hd
    have e : ps ≠ [] := fun z => by subst z; simp at hn
    have h0 : ps.isEmpty = false := by cases ps with
      | nil => exact absurd rfl e
      | cons a l => rfl
    refine ⟨tns ps, fun n => ?_⟩
    have z := read_parts ps b [] [] [] n hn.2 hb e (by simpa using hd)
    simp only [List.append_nil, List.nil_append] at z
    simp only [txt, h0, outW, outP]
    exact z.trans after_end
theorem read_other {ps : List D} (hn : Nf (.br false ps)) (hb : BxAs ps) : ∃ k, ∀ n, run (n + k) [(true, [])] (txt (.br false ps)) = some none := by
  simp only [Nf] at hn
  have h0 : ps.isEmpty = false := by cases ps with
    | nil => simp at hn
    | cons a l => rfl
  obtain ⟨k, hk⟩ := read_wrong ps false [] [] hn.2 hb hn.1
  refine ⟨k, fun n => ?_⟩
  have z := hk n
  simp only [List.append_nil] at z
  simp only [txt, h0]
  exact z
theorem boxAt_none : boxAt (codes "none") = none := by decide +kernel
theorem run_none (n : Nat) (b : Bool) : run (n + 1) [(b, [])] (codes "none") = some none := by
  have o : opens [(b, [])] (codes "none") = false := by cases b <;> decide +kernel
  rw [run, if_neg (by rw [o]; simp), boxAt_none]
theorem txt_none {d : D} (hn : Nf d) (hb : BxA d) (hd : dep d ≤ 12) : txt d ≠ codes "none" := fun e => by
  obtain ⟨k, hk⟩ := read_whole hn hb hd
  have z := hk 1
  rw [e, Nat.add_comm, run_none] at z
  simp at z
theorem txt_inj0 {d e : D} (hn : Nf d) (hb : BxA d) (hd : dep d ≤ 12) (hn' : Nf e) (hb' : BxA e) (hd' : dep e ≤ 12) (h : txt d = txt e) : d = e := by
  have same : outW d = outW e → d = e := fun w => by
    obtain ⟨k, hk⟩ := read_whole hn hb hd
    obtain ⟨m, hm⟩ := read_whole hn' hb' hd'
    have z1 := hk m
    have z2 := hm k
    rw [h, w, Nat.add_comm m k, z2] at z1
    have p : outP e = outP d := by simpa using z1
    rw [← ofOut_eq hn, ← ofOut_eq hn', w, p]
  have diff : ∀ {d e : D}, Nf d → BxA d → dep d ≤ 12 → Nf e → BxA e → txt d = txt e → outW d = true → outW e = false → False := by
    intro d e hn hb hd hn' hb' h w w'
    cases e with
    | bx i k => simp [outW] at w'
    | br b ps =>
      simp only [outW] at w'
      subst w'
      simp only [BxA] at hb'
      obtain ⟨k, hk⟩ := read_whole hn hb hd
      obtain ⟨m, hm⟩ := read_other hn' hb'
      have z1 := hk m
      have z2 := hm k
      rw [w, h, Nat.add_comm m k, z2] at z1
      simp at z1
  cases w : outW d with
  | true =>
    cases w' : outW e with
    | true => exact same (w.trans w'.symm)
    | false => exact (diff hn hb hd hn' hb' h w w').elim
  | false =>
    cases w' : outW e with
    | true => exact (diff hn' hb' hd' hn hb h.symm w' w).elim
    | false => exact same (w.trans w'.symm)
/-- normal, or empty -/
def NfE (d : D) : Prop := d = E0D ∨ Nf d
theorem txt_E0 : txt E0D = codes "none" := by simp [txt]
theorem txt_inj {d e : D} (hn : NfE d) (hb : BxA d) (hd : dep d ≤ 12) (hn' : NfE e) (hb' : BxA e) (hd' : dep e ≤ 12) (h : txt d = txt e) : d = e := by
  rcases hn with rfl | hn
  · rcases hn' with rfl | hn'
    · rfl
    · exact absurd (h.symm.trans txt_E0) (txt_none hn' hb' hd')
  · rcases hn' with rfl | hn'
    · exact absurd (h.trans txt_E0) (txt_none hn hb hd)
    · exact txt_inj0 hn hb hd hn' hb' hd' h
/-! ### lengths -/
theorem btxt_len {i k : Nat} (h : BxOk i k) : (btxt i k).length ≤ 9 ∧ 1 ≤ (btxt i k).length := by
  have e : (BX.all fun p => decide ((btxt p.1 p.2).length ≤ 9) && decide (1 ≤ (btxt p.1 p.2).length)) = true := by decide +kernel
  have z := List.all_eq_true.mp e (i, k) (BX_mem h)
  simpa using z
theorem sep_len (b : Bool) : (sep b).length = 3 := by cases b <;> rfl
mutual
theorem txt_len : ∀ d : D, BxA d → (txt d).length + 5 ≤ 14 * sz d
  | .bx i k, h => by
    simp only [BxA] at h
    have z := btxt_len h
    simp only [txt, sz]
    omega
  | .br b ps, h => by
    simp only [BxA] at h
    simp only [txt, sz]
    split
    · have e : (codes "none").length = 4 := by decide +kernel
      omega
    · have z := join_len b ps h
      omega
theorem join_len (b : Bool) : ∀ ps : List D, BxAs ps → (joinL (sep b) (ptxts ps)).length ≤ 14 * szs ps
  | [], _ => by simp [ptxts, joinL]
  | [d], h => by
    rw [BxAs] at h
    rw [ptxts_cons]
    show (ptx d).length ≤ _
    have z := ptx_len d h.1
    simp only [szs]
    omega
  | d :: e :: ps, h => by
    rw [BxAs] at h
    have z := ptx_len d h.1
    have y := join_len b (e :: ps) h.2
    rw [ptxts_cons, joinL_cons _ _ (by rw [ptxts_cons]; simp), List.length_append, List.length_append, sep_len, szs]
    omega
theorem ptx_len : ∀ d : D, BxA d → (ptx d).length + 3 ≤ 14 * sz d
  | .bx i k, h => by
    simp only [BxA] at h
    have z := btxt_len h
    simp only [ptx, sz]
    omega
  | .br b ps, h => by
    have z := txt_len (.br b ps) h
    simp only [ptx, List.length_cons, List.length_append, List.length_nil]
    omega
end
end K9

set_option maxHeartbeats 4000000
/-! the text by places, the module's facts, drawings in the heap -/
namespace K9
open PySem PySem.Spec L2
def top (i : Nat) : Stmt := PySem.Challenge.pw_boxlaws_k09_whole_texts_there_and_back.main.body.getD i (.Pass ⟨0, 0, 0, 0⟩)
/-- a text of these signs -/
def S (l : List Nat) : Str := ⟨l.toArray⟩
theorem S_len (l : List Nat) : (S l).length = l.length := by simp [S, Str.length]
theorem S_list (l : List Nat) : (S l).cps.toList = l := by simp [S]
theorem S_inj {l m : List Nat} (h : S l = S m) : l = m := by
  have e := congrArg (fun z : Str => z.cps.toList) h
  simpa [S] using e
theorem S_app (l m : List Nat) : S l ++ S m = S (l ++ m) := by
  show Str.append (S l) (S m) = _
  simp [S, Str.append]
theorem S_eq {l m : List Nat} : (S l = S m) = (l = m) := propext ⟨S_inj, fun e => by rw [e]⟩
theorem S_dec (l m : List Nat) : decide (V.str (S l) = V.str (S m)) = decide (l = m) := by
  simp only [V.str.injEq, S_eq]
def word (i : Nat) : Str := S (wl i)
def kw (b : Bool) : Str := S (if b then codes "behind" else codes "beside")
/-- a small box's items -/
def bv (i k : Nat) : List V := if isnum i then [.str (word i), .int (k : Int)] else [.str (word i)]
theorem bo_len : bootBuiltins "len" = some (.builtin "len") := by decide +kernel
theorem bo_isinstance : bootBuiltins "isinstance" = some (.builtin "isinstance") := by decide +kernel
theorem bo_any : bootBuiltins "any" = some (.builtin "any") := by decide +kernel
theorem bo_sum : bootBuiltins "sum" = some (.builtin "sum") := by decide +kernel
theorem bo_max : bootBuiltins "max" = some (.builtin "max") := by decide +kernel
theorem bo_min : bootBuiltins "min" = some (.builtin "min") := by decide +kernel
theorem bo_abs : bootBuiltins "abs" = some (.builtin "abs") := by decide +kernel
theorem bo_repr : bootBuiltins "repr" = some (.builtin "repr") := by decide +kernel
theorem bo_int : bootBuiltins "int" = some (.type "int") := by decide +kernel
theorem bo_str : bootBuiltins "str" = some (.type "str") := by decide +kernel
theorem bo_bool : bootBuiltins "bool" = some (.type "bool") := by decide +kernel
theorem bo_tuple : bootBuiltins "tuple" = some (.type "tuple") := by decide +kernel
theorem bo_list : bootBuiltins "list" = some (.type "list") := by decide +kernel
/-! ### the module's facts -/
abbrev aE (K : PySem.W.Frag) : Addr := He.ga K "EMPTY"
abbrev aB (K : PySem.W.Frag) : Addr := He.ga K "BOX_ENDS"
abbrev aS (K : PySem.W.Frag) : Addr := He.ga K "SIGNS"
abbrev aO (K : PySem.W.Frag) : Addr := He.ga K "OTHER_WORD"
def dEs (K : PySem.W.Frag) (a : Addr) : Array DictEntry := match K.lookup a with
  | some ⟨_, _, .dict es _, _⟩ => es
  | _ => #[]
def dN (K : PySem.W.Frag) (a : Addr) : Nat := match K.lookup a with
  | some ⟨_, _, .dict _ n, _⟩ => n
  | _ => 0
def Glob (mg : Str → Option Value) (x : Str) (v : V) : Prop := ∃ u, mg x = some u ∧ RelV v u
structure Tp0 (w : World) (K : PySem.W.Frag) (mg : Str → Option Value) : Prop where
  len : mg "len" = none
  isinstance : mg "isinstance" = none
  any : mg "any" = none
  sum : mg "sum" = none
  max : mg "max" = none
  min : mg "min" = none
  abs : mg "abs" = none
  repr : mg "repr" = none
  int : mg "int" = none
  str : mg "str" = none
  bool : mg "bool" = none
  tuple : mg "tuple" = none
  list : mg "list" = none
  range : mg "range" = none
  enumerate : mg "enumerate" = none
  MAX_ENDS : Glob mg "MAX_ENDS" (.int 8)
  MAX_TIMES : Glob mg "MAX_TIMES" (.int 6)
  MAX_PARTS : Glob mg "MAX_PARTS" (.int 400)
  MAX_DEPTH : Glob mg "MAX_DEPTH" (.int 12)
  MAX_BOXES : Glob mg "MAX_BOXES" (.int 400)
  MAX_WIDE : Glob mg "MAX_WIDE" (.int 16)
  EMPTY : Glob mg "EMPTY" (.ref (aE K))
  BOX_ENDS : Glob mg "BOX_ENDS" (.ref (aB K))
  SIGNS : Glob mg "SIGNS" (.ref (aS K))
  OTHER_WORD : Glob mg "OTHER_WORD" (.ref (aO K))
  empty : ∃ p, (∀ H, SqT K H (aE K) [.str (kw false), .ref p]) ∧ ∀ H, SqT K H p []
  BOX_ENDS_at : KDict K w (aB K) (dEs K (aB K)) (dN K (aB K))
  ends : ∀ i, i < 14 → ∃ p, KDct K w (aB K) (word i) (.ref p) ∧ ∀ H, SqT K H p [.int (eL i : Int), .int (eR i : Int)]
  noend : ∀ b, PySem.W.nsIn K (aB K) (kw b) = some none
  keys : KKeys K (aB K) ((List.range 14).map word)
  sign : ∀ b, KDct K w (aS K) (kw b) (.str (S (sep b)))
  other : ∀ b, KDct K w (aO K) (kw b) (.str (kw (!b)))
/-! ### what stays -/
/-- all that is tracked but lists stays as it is -/
def Kp (H H' : Hp) : Prop := ∀ a o, H a = some o → (∀ l, o ≠ .lst l) → H' a = some o
theorem Kp.refl (H : Hp) : Kp H H := fun _ _ h _ => h
theorem Kp.trans {H H1 H2 : Hp} (a : Kp H H1) (b : Kp H1 H2) : Kp H H2 := fun x o h n => b x o (a x o h n) n
theorem _root_.L2.Same.kp {H H' : Hp} (e : Same H H') : Kp H H' := fun a o h _ => e a o h
theorem same_new {H : Hp} {p : Addr} {o : HO} (h : H p = none) : Same H (upd H p o) := fun b u q => by rw [upd_ne (ne_of_none q h)]; exact q
/-- what was not there ahead may change -/
theorem _root_.L2.Same.mut {H H' : Hp} {p : Addr} {o : HO} (e : Same H H') (h : H p = none) : Same H (upd H' p o) := fun a u ha => by
  rw [upd_ne (ne_of_none ha h)]
  exact e a u ha
theorem kp_lst {H : Hp} {p : Addr} {xs : List V} {o : HO} (h : H p = some (.lst xs)) : Kp H (upd H p o) := fun a u ha n => by
  rw [upd_ne]
  · exact ha
  · intro z
    subst z
    rw [h] at ha
    cases ha
    exact n _ rfl
theorem Kp.tup {K : PySem.W.Frag} {H H' : Hp} {a : Addr} {xs : List V} (e : Kp H H') (h : SqT K H a xs) : SqT K H' a xs := by
  rcases h with (h | ⟨o, h⟩) | h
  · exact .inl (.inl (e _ _ h fun l z => nomatch z))
  · exact .inl (.inr ⟨o, e _ _ h fun l z => nomatch z⟩)
  · exact .inr h
theorem _root_.L2.Same.tup {K : PySem.W.Frag} {H H' : Hp} {a : Addr} {xs : List V} (e : Same H H') (h : SqT K H a xs) : SqT K H' a xs := e.kp.tup h
theorem lst_ne {H : Hp} {p q : Addr} {xs : List V} {o : HO} (h : H p = some (.lst xs)) (h' : H q = some o) (n : ∀ l, o ≠ .lst l) : q ≠ p := fun z => by
  subst z
  rw [h] at h'
  cases h'
  exact n _ rfl
/-! ### drawings in the heap -/
section
variable (K : PySem.W.Frag) (H : Hp)
mutual
def Dr : D → V → Prop
  | .bx i k, v => ∃ a, v = .ref a ∧ SqT K H a (bv i k)
  | .br b ps, v => ∃ a p vs, v = .ref a ∧ SqT K H a [.str (kw b), .ref p] ∧ SqT K H p vs ∧ Drs ps vs
def Drs : List D → List V → Prop
  | [], vs => vs = []
  | d :: ps, vs => ∃ v r, vs = v :: r ∧ Dr d v ∧ Drs ps r
end
end
section
variable {K : PySem.W.Frag} {H H' : Hp}
mutual
theorem Kp.dr (e : Kp H H') : ∀ {d : D} {v : V}, Dr K H d v → Dr K H' d v
  | .bx i k, v, h => by
    simp only [Dr] at h ⊢
    obtain ⟨a, rfl, h⟩ := h
    exact ⟨a, rfl, e.tup h⟩
  | .br b ps, v, h => by
    simp only [Dr] at h ⊢
    obtain ⟨a, p, vs, rfl, h1, h2, h3⟩ := h
    exact ⟨a, p, vs, rfl, e.tup h1, e.tup h2, Kp.drs e h3⟩
theorem Kp.drs (e : Kp H H') : ∀ {ps : List D} {vs : List V}, Drs K H ps vs → Drs K H' ps vs
  | [], vs, h => by simpa [Drs] using h
  | d :: ps, vs, h => by
    simp only [Drs] at h ⊢
    obtain ⟨v, r, rfl, h1, h2⟩ := h
    exact ⟨v, r, rfl, Kp.dr e h1, Kp.drs e h2⟩
end
theorem _root_.L2.Same.dr (e : Same H H') {d : D} {v : V} (h : Dr K H d v) : Dr K H' d v := e.kp.dr h
theorem _root_.L2.Same.drs (e : Same H H') {ps : List D} {vs : List V} (h : Drs K H ps vs) : Drs K H' ps vs := e.kp.drs h
theorem Drs.len : ∀ {ps : List D} {vs : List V}, Drs K H ps vs → vs.length = ps.length
  | [], vs, h => by
    simp only [Drs] at h
    subst h
    rfl
  | d :: ps, vs, h => by
    simp only [Drs] at h
    obtain ⟨v, r, rfl, h1, h2⟩ := h
    simp [Drs.len h2]
theorem Drs.app : ∀ {ps qs : List D} {vs ws : List V}, Drs K H ps vs → Drs K H qs ws → Drs K H (ps ++ qs) (vs ++ ws)
  | [], qs, vs, ws, h, h' => by
    simp only [Drs] at h
    subst h
    simpa using h'
  | d :: ps, qs, vs, ws, h, h' => by
    simp only [Drs] at h
    obtain ⟨v, r, rfl, h1, h2⟩ := h
    simp only [List.cons_append, Drs]
    exact ⟨v, r ++ ws, rfl, h1, Drs.app h2 h'⟩
theorem Drs.nil : Drs K H [] [] := by simp [Drs]
theorem Drs.one {d : D} {v : V} (h : Dr K H d v) : Drs K H [d] [v] := by
  simp only [Drs]
  exact ⟨v, [], rfl, h, rfl⟩
theorem Drs.get : ∀ {ps : List D} {vs : List V} {i : Nat} {v : V}, Drs K H ps vs → vs[i]? = some v → ∃ d, ps[i]? = some d ∧ Dr K H d v
  | [], vs, i, v, h, e => by
    simp only [Drs] at h
    subst h
    simp at e
  | d :: ps, vs, 0, v, h, e => by
    simp only [Drs] at h
    obtain ⟨w, r, rfl, h1, h2⟩ := h
    have z : w = v := by simpa using e
    subst z
    exact ⟨d, rfl, h1⟩
  | d :: ps, vs, i + 1, v, h, e => by
    simp only [Drs] at h
    obtain ⟨w, r, rfl, h1, h2⟩ := h
    exact Drs.get (i := i) h2 (by simpa using e)
theorem Drs.at {ps : List D} {vs : List V} {i : Nat} {d : D} (h : Drs K H ps vs) (e : ps[i]? = some d) : ∃ v, vs[i]? = some v ∧ Dr K H d v := by
  have hi := (List.getElem?_eq_some_iff.mp e).1
  have hl := h.len
  have ev : vs[i]? = some (vs[i]'(by omega)) := List.getElem?_eq_getElem (by omega)
  obtain ⟨d', e', h'⟩ := h.get ev
  rw [e] at e'
  cases e'
  exact ⟨_, ev, h'⟩
theorem Dr.ref {d : D} {v : V} (h : Dr K H d v) : ∃ a, v = .ref a := by
  cases d with
  | bx i k =>
    simp only [Dr] at h
    obtain ⟨a, rfl, _⟩ := h
    exact ⟨a, rfl⟩
  | br b ps =>
    simp only [Dr] at h
    obtain ⟨a, p, vs, rfl, _⟩ := h
    exact ⟨a, rfl⟩
theorem Tp0.drE {w : World} {mg : Str → Option Value} (T : Tp0 w K mg) : Dr K H E0D (.ref (aE K)) := by
  obtain ⟨p, h1, h2⟩ := T.empty
  simp only [Dr, Drs]
  exact ⟨_, p, [], rfl, h1 H, h2 H, rfl⟩
end
/-! ### isinstance -/
theorem tyx_tup {K : PySem.W.Frag} {H : Hp} {a : Addr} {xs : List V} (h : SqT K H a xs) : TyX K H (.ref a) (.type "tuple") := by
  rcases h with (h | ⟨o, h⟩) | ⟨o, its, n, e, c, _⟩
  · exact .base (.tup h)
  · exact .fTuple h
  · exact .kTuple e c
theorem tyx_str {K : PySem.W.Frag} {H : Hp} {x : Str} : TyX K H (.str x) (.type "str") := .base (.str x)
theorem tyx_int {K : PySem.W.Frag} {H : Hp} {i : Int} : TyX K H (.int i) (.type "int") := .base (.int i)
theorem kTT {K : PySem.W.Frag} : PySem.W.kitOne K (.type "tuple") (.type "tuple") = some true := kit_ty (by decide +kernel)
theorem kSS {K : PySem.W.Frag} : PySem.W.kitOne K (.type "str") (.type "str") = some true := kit_ty (by decide +kernel)
theorem kII {K : PySem.W.Frag} : PySem.W.kitOne K (.type "int") (.type "int") = some true := kit_ty (by decide +kernel)
theorem kIB {K : PySem.W.Frag} : PySem.W.kitOne K (.type "int") (.type "bool") = some false := kit_ty (by decide +kernel)
/-! ### a def under its name, ready to be called -/
structure D0 (K : PySem.W.Frag) (mg : Str → Option Value) (x : Str) (st : Stmt) (ps : List Str) : Prop where
  ex : ∃ f fd, C8.Def K mg x st f fd ∧ Binds K fd ps []
section
variable {P : Program} {w : World} {K : PySem.W.Frag} {mg : Str → Option Value} {base : Heap}
theorem D0.ok {x : Str} {st : Stmt} {N ps : List Str} {k : Nat} {sp : Sp} (F : D0 K mg x st ps) (S : FnScope N ps (C8.fnScope st)) (len : ∀ vs H Q E, sp vs H Q E → vs.length = ps.length)
    (hbody : ∀ (f : Addr) (cdv : Value) (A : Around) (outer : List Env) (s : Shared) (H : Hp) (vs : List V) (Q : VK) (E : XK), Room k (A.deeper (PyProof.Rows.envOfC x (C8.fnScope st) s.heap.objs.size f cdv)) → sp vs H Q E →
      ∃ t, PSs (cxOf CX0 P w K mg base N x (C8.fnScope st) f cdv A outer s H E).nox (C8.fnBody st) t ∧ t { nx := fun _ H' => Q .non H', rt := Q } (start N vs) H) : C8.Cal P w K mg base (k + 1) x sp [] := by
  obtain ⟨f, fd, F, b⟩ := F.ex
  exact C8.cal0 F b .nil S len (hbody f)
theorem _root_.C8.Cal.mono {j k : Nat} {x : Str} {sp : Sp} (c : C8.Cal P w K mg base j x sp []) (h : j ≤ k) : C8.Cal P w K mg base k x sp [] := by
  obtain ⟨f, fd, ps, ds, F, r⟩ := c.ex
  exact ⟨f, fd, ps, ds, F.mono h, r⟩
end
end K9

set_option maxHeartbeats 4000000
namespace K9
open PySem PySem.Spec L2
abbrev s_is_small : Stmt := top 13
abbrev N_is_small : List Str := ["value"]
theorem sc_is_small : FnScope N_is_small ["value"] (C8.fnScope s_is_small) := C8.fnScope_by (by decide +kernel)
theorem isnum_cases {i : Nat} (h : i < 14) : (isnum i = true ∧ (i = 6 ∨ i = 11)) ∨ (isnum i = false) := by
  cases e : isnum i with
  | false => exact .inr rfl
  | true => exact .inl ⟨rfl, by simpa [isnum] using e⟩
theorem bv_at0 (i k : Nat) : atI (bv i k) 0 = some (.str (word i)) := by
  unfold bv
  split <;> rfl
theorem notnum_in : ∀ i, i < 14 → inV (.str (word i)) [.str ("times" : Str), .str ("untimes" : Str)] = isnum i := by decide +kernel
theorem kw_notin : ∀ b, inV (.str (kw b)) [.str ("times" : Str), .str ("untimes" : Str)] = false := by decide +kernel
/-- is_small answers whether a drawing is a small box -/
def spSmall (K : PySem.W.Frag) : Sp := fun vs H Q _ => ∃ (v : V) (d : D), vs = [v] ∧ Dr K H d v ∧ BxA d ∧ ∀ H', Same H H' → Q (.bl (small d)) H'
theorem ok_small {P : Program} {w : World} {K : PySem.W.Frag} {mg : Str → Option Value} {base : Heap} (T : Tp0 w K mg) (F : D0 K mg "is_small" s_is_small ["value"]) : C8.Cal P w K mg base 1 "is_small" (spSmall K) [] := by
  refine F.ok sc_is_small (fun vs H Q E h => ?_) (fun f cdv A outer s H vs Q E hr h => ?_)
  · obtain ⟨v, d, rfl, _⟩ := h
    rfl
  obtain ⟨v, d, rfl, hD, hB, q⟩ := h
  refine ⟨_, (pss_cons (ps_if (PW.pt (pw_or (pt_not (pt_val (pe_callB call_isi rfl T.isinstance bo_isinstance (pa_cons (pv 0) (pa_cons (pe_bltn (v := .ty "tuple") rfl T.tuple bo_tuple rfl) pa_nil))))) (pw_or (pt_cmpR op_eq (pe_callB call_len_seq rfl T.len bo_len (pa_cons (pv 0) pa_nil)) pe_int (nomark _)) (pw_or (pt_not (pt_val (pe_callB call_isi rfl T.isinstance bo_isinstance (pa_cons (pe_ix ix_tup (pv 0) pe_int (fun _ _ => rfl)) (pa_cons (pe_bltn (v := .ty "str") rfl T.str bo_str rfl) pa_nil))))) (pw_or1 (pt_cmpR (op_notIn_kd T.BOX_ENDS_at) (pe_ix ix_tup (pv 0) pe_int (fun _ _ => rfl)) (C8.pe_gc rfl T.BOX_ENDS) (by rfl)))))))
      (pss_one (ps_ret pe_bl))
      pss_nil)
    (pss_cons (ps_if (pt_cmpR op_notIn_seq (pe_ix ix_tup (pv 0) pe_int (fun _ _ => rfl)) (pe_tup (pa_cons pe_str (pa_cons pe_str pa_nil))) (by rfl))
      (pss_one (ps_ret (pe_cmpR op_eq (pe_callB call_len_seq rfl T.len bo_len (pa_cons (pv 0) pa_nil)) pe_int (nomark _))))
      pss_nil)
    (pss_cons (ps_if (PW.pt (pw_or (pt_cmpR op_ne (pe_callB call_len_seq rfl T.len bo_len (pa_cons (pv 0) pa_nil)) pe_int (nomark _)) (pw_or (pt_not (pt_val (pe_callB call_isi rfl T.isinstance bo_isinstance (pa_cons (pe_ix ix_tup (pv 0) pe_int (fun _ _ => rfl)) (pa_cons (pe_bltn (v := .ty "int") rfl T.int bo_int rfl) pa_nil))))) (pw_or1 (pt_val (pe_callB call_isi rfl T.isinstance bo_isinstance (pa_cons (pe_ix ix_tup (pv 0) pe_int (fun _ _ => rfl)) (pa_cons (pe_bltn (v := .ty "bool") rfl T.bool bo_bool rfl) pa_nil))))))))
      (pss_one (ps_ret pe_bl))
      pss_nil)
    (pss_one (ps_ret (pe_chain op_le op_le pe_int (pe_ix ix_tup (pv 0) pe_int (fun _ _ => rfl)) (C8.pe_gc rfl T.MAX_TIMES))))))), ?_⟩
  cases d with
  | br b ps =>
    simp only [Dr] at hD
    obtain ⟨a, p, vs, rfl, h1, h2, h3⟩ := hD
    refine ⟨_, rfl, _, _, _, _, true, rfl, .ty _, tyx_tup h1, kTT, true, rfl, iteF ?_⟩
    refine ⟨_, rfl, _, _, rfl, .inr h1, rfl, _, rfl, iteF ?_⟩
    refine ⟨_, rfl, _, _, _, _, rfl, rfl, h1, rfl, _, _, _, _, true, rfl, .ty _, tyx_str, kSS, true, rfl, iteF ?_⟩
    refine ⟨_, rfl, _, _, _, _, rfl, rfl, h1, rfl, _, _, rfl, rfl, T.noend b, true, rfl, iteT ?_⟩
    exact q H (Same.refl H)
  | bx i k =>
    simp only [Dr] at hD
    simp only [BxA] at hB
    obtain ⟨a, rfl, h1⟩ := hD
    obtain ⟨p, hk, hp⟩ := T.ends i hB.1
    obtain ⟨_, _, u, _, _, hu, _⟩ := hk
    refine ⟨_, rfl, _, _, _, _, true, rfl, .ty _, tyx_tup h1, kTT, true, rfl, iteF ?_⟩
    refine ⟨_, rfl, _, _, rfl, .inr h1, rfl, _, rfl, ?_⟩
    have hl : decide (V.int ((bv i k).length : Int) = V.int 0) = false := by unfold bv; split <;> rfl
    rw [hl]
    refine iteF ⟨_, rfl, _, _, _, _, rfl, rfl, h1, bv_at0 i k, _, _, _, _, true, rfl, .ty _, tyx_str, kSS, true, rfl, iteF ?_⟩
    refine ⟨_, rfl, _, _, _, _, rfl, rfl, h1, bv_at0 i k, _, _, rfl, rfl, hu, false, rfl, iteF ?_⟩
    refine ⟨_, rfl, _, _, _, _, rfl, rfl, h1, bv_at0 i k, (by show 2 ≤ sizeLine; decide), fun t ht => ?_⟩
    refine ⟨t, _, rfl, .inr (SqT.of upd_same), rfl, rfl, _, rfl, ?_⟩
    have s1 : Same H (upd H t (.tup [.str "times", .str "untimes"])) := same_new ht
    have h2 := s1.tup h1
    rw [show inV (V.str (word i)) [V.str "times", V.str "untimes"] = isnum i from notnum_in i hB.1]
    cases hn : isnum i with
    | false =>
      refine iteT ?_
      refine ⟨_, rfl, _, _, rfl, .inr h2, rfl, ?_⟩
      have hl2 : decide (V.int ((bv i k).length : Int) = V.int 1) = true := by unfold bv; rw [hn]; rfl
      rw [hl2]
      exact q _ s1
    | true =>
      refine iteF ?_
      have hb : bv i k = [.str (word i), .int (k : Int)] := by unfold bv; rw [hn]; rfl
      rw [hb] at h2
      refine ⟨_, rfl, _, _, rfl, .inr h2, rfl, _, rfl, iteF ?_⟩
      refine ⟨_, rfl, _, _, _, _, rfl, rfl, h2, rfl, _, _, _, _, true, rfl, .ty _, tyx_int, kII, true, rfl, iteF ?_⟩
      refine ⟨_, rfl, _, _, _, _, rfl, rfl, h2, rfl, _, _, _, _, false, rfl, .ty _, tyx_int, kIB, false, rfl, iteF ?_⟩
      refine ⟨_, rfl, _, _, _, _, rfl, rfl, h2, rfl, _, _, rfl, rfl, _, rfl, ?_⟩
      rw [decide_eq_true (by omega : (0 : Int) ≤ (k : Int))]
      refine iteT ⟨_, _, rfl, rfl, ?_⟩
      have h6 := hB.2.1
      show Q (.bl (decide ((k : Int) ≤ 6))) _
      rw [decide_eq_true (by omega : (k : Int) ≤ 6)]
      exact q _ s1
abbrev s_is_bracket : Stmt := top 14
abbrev N_is_bracket : List Str := ["value"]
theorem sc_is_bracket : FnScope N_is_bracket ["value"] (C8.fnScope s_is_bracket) := C8.fnScope_by (by decide +kernel)
theorem kw_in : ∀ b, inV (.str (kw b)) [.str ("behind" : Str), .str ("beside" : Str)] = true := by decide +kernel
theorem kw_eq : ∀ b, decide (V.str (kw b) = V.str ("beside" : Str)) = !b := by decide +kernel
/-- asked of a bracket it answers True -/
def spBracket (K : PySem.W.Frag) : Sp := fun vs H Q _ => ∃ (v : V) (b : Bool) (ps : List D), vs = [v] ∧ Dr K H (.br b ps) v ∧ ps.length ≤ 400 ∧ (b = true → ps ≠ []) ∧ ∀ H', Same H H' → Q (.bl true) H'
theorem ok_bracket {P : Program} {w : World} {K : PySem.W.Frag} {mg : Str → Option Value} {base : Heap} (T : Tp0 w K mg) (F : D0 K mg "is_bracket" s_is_bracket ["value"]) : C8.Cal P w K mg base 1 "is_bracket" (spBracket K) [] := by
  refine F.ok sc_is_bracket (fun vs H Q E h => ?_) (fun f cdv A outer s H vs Q E hr h => ?_)
  · obtain ⟨v, b, ps, rfl, _⟩ := h
    rfl
  obtain ⟨v, b, ps, rfl, hD, hl, hb, q⟩ := h
  refine ⟨_, (pss_cons (ps_if (PW.pt (pw_or (pt_not (pt_val (pe_callB call_isi rfl T.isinstance bo_isinstance (pa_cons (pv 0) (pa_cons (pe_bltn (v := .ty "tuple") rfl T.tuple bo_tuple rfl) pa_nil))))) (pw_or (pt_cmpR op_ne (pe_callB call_len_seq rfl T.len bo_len (pa_cons (pv 0) pa_nil)) pe_int (nomark _)) (pw_or1 (pt_not (pt_val (pe_callB call_isi rfl T.isinstance bo_isinstance (pa_cons (pe_ix ix_tup (pv 0) pe_int (fun _ _ => rfl)) (pa_cons (pe_bltn (v := .ty "tuple") rfl T.tuple bo_tuple rfl) pa_nil)))))))))
      (pss_one (ps_ret pe_bl))
      pss_nil)
    (pss_cons (ps_if (PW.pt (pw_or (pt_not (pt_val (pe_callB call_isi rfl T.isinstance bo_isinstance (pa_cons (pe_ix ix_tup (pv 0) pe_int (fun _ _ => rfl)) (pa_cons (pe_bltn (v := .ty "str") rfl T.str bo_str rfl) pa_nil))))) (pw_or (pt_cmpR op_notIn_seq (pe_ix ix_tup (pv 0) pe_int (fun _ _ => rfl)) (pe_tup (pa_cons pe_str (pa_cons pe_str pa_nil))) (by rfl)) (pw_or1 (pt_cmpR op_gt (pe_callB call_len_seq rfl T.len bo_len (pa_cons (pe_ix ix_tup (pv 0) pe_int (fun _ _ => rfl)) pa_nil)) (C8.pe_gc rfl T.MAX_PARTS) (nomark _))))))
      (pss_one (ps_ret pe_bl))
      pss_nil)
    (pss_one (ps_ret (pe_or (pe_cmpR op_eq (pe_ix ix_tup (pv 0) pe_int (fun _ _ => rfl)) pe_str (nomark _)) (pe_one (pe_cmpR op_gt (pe_callB call_len_seq rfl T.len bo_len (pa_cons (pe_ix ix_tup (pv 0) pe_int (fun _ _ => rfl)) pa_nil)) pe_int (nomark _)))))))), ?_⟩
  simp only [Dr] at hD
  obtain ⟨a, p, vs, rfl, h1, h2, h3⟩ := hD
  have hlen := h3.len
  refine ⟨_, rfl, _, _, _, _, true, rfl, .ty _, tyx_tup h1, kTT, true, rfl, iteF ?_⟩
  refine ⟨_, rfl, _, _, rfl, .inr h1, rfl, _, rfl, iteF ?_⟩
  refine ⟨_, rfl, _, _, _, _, rfl, rfl, h1, rfl, _, _, _, _, true, rfl, .ty _, tyx_tup h2, kTT, true, rfl, iteF ?_⟩
  refine ⟨_, rfl, _, _, _, _, rfl, rfl, h1, rfl, _, _, _, _, true, rfl, .ty _, tyx_str, kSS, true, rfl, iteF ?_⟩
  refine ⟨_, rfl, _, _, _, _, rfl, rfl, h1, rfl, (by show 2 ≤ sizeLine; decide), fun t ht => ?_⟩
  have s1 : Same H (upd H t (.tup [.str "behind", .str "beside"])) := same_new ht
  refine ⟨t, _, rfl, .inr (SqT.of upd_same), rfl, rfl, _, rfl, ?_⟩
  rw [show inV (V.str (kw b)) [V.str "behind", V.str "beside"] = true from kw_in b]
  refine iteF ⟨_, rfl, _, _, _, _, rfl, rfl, s1.tup h1, rfl, _, _, rfl, .inr (s1.tup h2), _, _, rfl, rfl, _, rfl, ?_⟩
  rw [decide_eq_false (by omega : ¬ ((400 : Int) < (vs.length : Int)))]
  refine iteF ⟨_, rfl, _, _, _, _, rfl, rfl, s1.tup h1, rfl, rfl, _, rfl, ?_⟩
  rw [show decide (V.str (kw b) = V.str "beside") = !b from kw_eq b]
  cases b with
  | false => exact iteT (q _ s1)
  | true =>
    have hne := hb rfl
    have hpos : 0 < vs.length := by
      cases ps with
      | nil => exact absurd rfl hne
      | cons d r => rw [hlen]; exact Nat.succ_pos _
    refine iteF ⟨_, rfl, _, _, _, _, rfl, rfl, s1.tup h1, rfl, _, _, rfl, .inr (s1.tup h2), _, _, rfl, rfl, ?_⟩
    show Q (.bl (decide ((0 : Int) < (vs.length : Int)))) _
    rw [decide_eq_true (by omega : (0 : Int) < (vs.length : Int))]
    exact q _ s1
end K9

set_option maxHeartbeats 4000000
namespace K9
open PySem PySem.Spec L2
theorem catA_ok {K : PySem.W.Frag} {H : Hp} {a b : Addr} {xs ys : List V} {Q : VK} (ha : SqT K H a xs) (hb : SqT K H b ys) (z : xs.length + ys.length ≤ 100000) (q : ∀ p H', Same H H' → SqT K H' p (xs ++ ys) → Q (.ref p) H') : rCatA K (.ref a) (.ref b) H Q := by
  refine ⟨a, b, xs, ys, rfl, rfl, ha, hb, Nat.le_trans z (by decide), fun e => ?_, fun _ e => ?_, fun _ _ p hp => ?_⟩
  · subst e
    exact q b H (Same.refl H) hb
  · subst e
    exact q a H (Same.refl H) (by rw [List.append_nil]; exact ha)
  · exact q p _ (same_new hp) (SqT.of upd_same)
/-- a promise that asks what can't be -/
theorem D0.vac {P : Program} {w : World} {K : PySem.W.Frag} {mg : Str → Option Value} {base : Heap} {x : Str} {st : Stmt} {ps : List Str} {k : Nat} {sp : Sp} (F : D0 K mg x st ps) (no : ∀ vs H Q E, ¬ sp vs H Q E) : C8.Cal P w K mg base k x sp [] := by
  obtain ⟨f, fd, F, b⟩ := F.ex
  exact ⟨f, fd, ps, [], ⟨fun vs H Q E h => absurd h (no vs H Q E), fun A outer s H args us vs Q E _ _ _ _ h => absurd h (no vs H Q E)⟩, F.mgf, F.kp, b, .nil⟩
theorem kids {b : Bool} {ps : List D} {l r : Nat} (h : Tp (.br b ps) l r) : ∀ (i : Nat) (d : D), ps[i]? = some d → ∃ l r, Tp d l r := by
  have hc : ∀ (ps : List D) (l r : Nat), Ch ps l r → ∀ (i : Nat) (d : D), ps[i]? = some d → ∃ l r, Tp d l r := by
    intro ps
    induction ps with
    | nil => intro l r _ i d e; simp at e
    | cons x ps ih =>
      intro l r h i d e
      simp only [Ch] at h
      obtain ⟨m, h1, h2⟩ := h
      cases i with
      | zero =>
        have z : x = d := by simpa using e
        subst z
        exact ⟨_, _, h1⟩
      | succ i => exact ih _ _ h2 i d (by simpa using e)
  have hb : ∀ (ps : List D) (l r : Nat), Bs ps l r → ∀ (i : Nat) (d : D), ps[i]? = some d → ∃ l r, Tp d l r := by
    intro ps
    induction ps with
    | nil => intro l r _ i d e; simp at e
    | cons x ps ih =>
      intro l r h i d e
      simp only [Bs] at h
      obtain ⟨l1, r1, l2, r2, h1, h2, _⟩ := h
      cases i with
      | zero =>
        have z : x = d := by simpa using e
        subst z
        exact ⟨_, _, h1⟩
      | succ i => exact ih _ _ h2 i d (by simpa using e)
  cases b with
  | true => simp only [Tp] at h; exact hc ps l r h.2.1
  | false => simp only [Tp] at h; exact hb ps l r h.1
theorem dep_kid {ps : List D} {i : Nat} {d : D} (h : ps[i]? = some d) : dep d + 1 ≤ deps ps := by
  induction ps generalizing i with
  | nil => simp at h
  | cons x ps ih =>
    cases i with
    | zero =>
      have z : x = d := by simpa using h
      subst z
      simp only [deps]
      omega
    | succ i =>
      have z := ih (i := i) (by simpa using h)
      simp only [deps]
      omega
theorem ln_kid {ps : List D} {i : Nat} {d : D} (hl : Lns ps) (h : ps[i]? = some d) : Ln d := by
  induction ps generalizing i with
  | nil => simp at h
  | cons x ps ih =>
    simp only [Lns] at hl
    cases i with
    | zero =>
      have z : x = d := by simpa using h
      subst z
      exact hl.1
    | succ i => exact ih hl.2 (i := i) (by simpa using h)
theorem tp_ne {b : Bool} {ps : List D} {l r : Nat} (h : Tp (.br b ps) l r) : b = true → ps ≠ [] := fun e => by
  subst e
  simp only [Tp] at h
  exact h.1
abbrev s_form_error : Stmt := top 15
abbrev N_form_error : List Str := ["value", "way", "place", "error"]
theorem sc_form_error : FnScope N_form_error ["value", "way"] (C8.fnScope s_form_error) := C8.fnScope_by (by decide +kernel)
/-- of a drawing that is in form: nothing is wrong -/
def spForm (K : PySem.W.Frag) (n : Nat) : Sp := fun vs H Q _ => ∃ (v : V) (d : D) (a : Addr) (ws : List V) (l r : Nat), vs = [v, .ref a] ∧ Dr K H d v ∧ Tp d l r ∧ Ln d ∧ SqT K H a ws ∧ ws.length + dep d ≤ 12 ∧ dep d + 1 ≤ n ∧ ∀ H', Same H H' → Q .non H'
theorem ok_form {P : Program} {w : World} {K : PySem.W.Frag} {mg : Str → Option Value} {base : Heap} (T : Tp0 w K mg) (F : D0 K mg "form_error" s_form_error ["value", "way"])
    (c_is_small : C8.Cal P w K mg base 1 "is_small" (spSmall K) []) (c_is_bracket : C8.Cal P w K mg base 1 "is_bracket" (spBracket K) []) :
    ∀ n, C8.Cal P w K mg base (n + 2) "form_error" (spForm K n) []
  | 0 => F.vac fun vs H Q E h => by
    obtain ⟨_, _, _, _, _, _, _, _, _, _, _, _, h, _⟩ := h
    omega
  | n + 1 => by
    have c_form_error := ok_form T F c_is_small c_is_bracket n
    refine F.ok sc_form_error (fun vs H Q E h => ?_) (fun f cdv A outer s H vs Q E hr h => ?_)
    · obtain ⟨_, _, _, _, _, _, rfl, _⟩ := h
      rfl
    obtain ⟨v, d, aw, ws, l, r, rfl, hD, hT, hL, hw, h12, hn, q⟩ := h
    refine ⟨_, (pss_cons (ps_if (pt_cmpR op_gt (pe_callB call_len_seq rfl T.len bo_len (pa_cons (pv 1) pa_nil)) (C8.pe_gc rfl T.MAX_DEPTH) (nomark _))
      (pss_one (ps_ret (pe_tup (pa_cons (pv 1) (pa_cons pe_str pa_nil)))))
      pss_nil)
    (pss_cons (ps_if (pt_val (C8.pe_c c_is_small hr (by omega) rfl (pa_cons (pv 0) pa_nil)))
      (pss_one (ps_ret pe_non))
      pss_nil)
    (pss_cons (ps_if (pt_not (pt_val (C8.pe_c c_is_bracket hr (by omega) rfl (pa_cons (pv 0) pa_nil))))
      (pss_one (ps_ret (pe_tup (pa_cons (pv 1) (pa_cons pe_str pa_nil)))))
      pss_nil)
    (pss_cons (ps_for PassesOwn.never rfl (pi_range1 rfl T.range (pa_cons (pe_callB call_len_seq rfl T.len bo_len (pa_cons (pe_ix ix_tup (pv 0) pe_int (fun _ _ => rfl)) pa_nil)) pa_nil)) (pg_name (i := 2) sc_form_error.nd rfl (Or.inl rfl))
      (pss_cons (ps_set (i := 3) sc_form_error.nd rfl (Or.inl rfl) (C8.pe_c c_form_error hr (by omega) rfl (pa_cons (pe_ix ix_tup (pe_ix ix_tup (pv 0) pe_int (fun _ _ => rfl)) (pv 2) (fun _ _ => rfl)) (pa_cons (pe_op op_catA (pv 1) (pe_tup (pa_cons (pv 2) pa_nil))) pa_nil))))
        (pss_one (ps_if (pt_cmpR op_notN (pv 3) pe_non (nomark _))
          (pss_one (ps_ret (pv 3)))
          pss_nil))))
    (pss_one (ps_ret pe_non)))))), ?_⟩
    refine ⟨_, rfl, _, _, rfl, .inr hw, _, _, rfl, rfl, _, rfl, ?_⟩
    rw [decide_eq_false (by omega : ¬ ((12 : Int) < (ws.length : Int)))]
    refine iteF ⟨_, rfl, v, d, rfl, hD, Tp_BxA hT, fun H1 s1 => ⟨_, rfl, ?_⟩⟩
    cases d with
    | bx i k => exact iteT (q H1 s1)
    | br b ps =>
      have hD1 := s1.dr hD
      have hLn := hL
      simp only [Ln] at hLn
      refine iteF ⟨_, rfl, v, b, ps, rfl, hD1, hLn.1, tp_ne hT, fun H2 s2 => ⟨true, rfl, iteF ?_⟩⟩
      have s12 := s1.trans s2
      have hD2 := s12.dr hD
      simp only [Dr] at hD2
      obtain ⟨a, p, vs, rfl, h1, h2, h3⟩ := hD2
      have hlen := h3.len
      refine ⟨_, rfl, _, _, _, _, rfl, rfl, h1, rfl, _, _, rfl, .inr h2, _, rfl, by omega, by omega, ?_⟩
      refine for_range (lo := 0) (n := ((vs.length : Int)).toNat) (fun i σ H' => ∃ y2 y3, σ = [some (.ref a), some (.ref aw), y2, y3] ∧ Same H2 H') ⟨_, _, rfl, Same.refl _⟩ (fun i σ H' hi hP => ?_) (fun σ H' hP => ?_)
      · obtain ⟨y2, y3, rfl, e⟩ := hP
        have hi' : i < vs.length := by omega
        have ev : vs[i]? = some vs[i] := List.getElem?_eq_getElem hi'
        obtain ⟨d', ed, hd'⟩ := h3.get ev
        obtain ⟨l', r', hT'⟩ := kids hT i d' ed
        have k1 := dep_kid ed
        have h2' := e.tup h2
        refine ⟨_, rfl, _, _, _, _, rfl, rfl, e.tup h1, rfl, _, rfl, _, _, _, _, rfl, rfl, h2', at_of (j := i) (by omega) ev, _, rfl, _, rfl, by show 1 ≤ sizeLine; decide, fun t ht => ?_⟩
        have s3 : Same H' (upd H' t (.tup [.int (0 + (i : Int))])) := same_new ht
        have e3 := e.trans s3
        simp only [dep] at h12 hn
        refine catA_ok (e3.tup (s12.tup hw)) (SqT.of upd_same) (by simp; omega) (fun pw H4 s4 hpw => ?_)
        refine ⟨_, d', pw, _, l', r', rfl, (e3.trans s4).dr hd', hT', ln_kid hLn.2 ed, hpw, by simp; omega, by omega, fun H5 s5 => ?_⟩
        refine ⟨_, rfl, rfl, _, rfl, iteF ?_⟩
        exact ⟨_, _, rfl, e3.trans (s4.trans s5)⟩
      · obtain ⟨y2, y3, rfl, e⟩ := hP
        exact q _ (s12.trans e)
abbrev s_boxes_of : Stmt := top 19
abbrev N_boxes_of : List Str := ["drawing", "found", "own"]
theorem sc_boxes_of : FnScope N_boxes_of ["drawing"] (C8.fnScope s_boxes_of) := C8.fnScope_by (by decide +kernel)
theorem nbs_kid {ps : List D} {i : Nat} {d : D} (h : ps[i]? = some d) : nbs (ps.take (i + 1)) = nbs (ps.take i) + nb d := by
  induction ps generalizing i with
  | nil => simp at h
  | cons x ps ih =>
    cases i with
    | zero =>
      have z : x = d := by simpa using h
      subst z
      simp [nbs]
    | succ i =>
      have z := ih (i := i) (by simpa using h)
      simp only [List.take_succ_cons, nbs, z]
      omega
theorem nbs_take (ps : List D) (i : Nat) : nbs (ps.take i) ≤ nbs ps := by
  induction ps generalizing i with
  | nil => simp [nbs]
  | cons x ps ih =>
    cases i with
    | zero => simp [nbs]
    | succ i =>
      have z := ih i
      simp only [List.take_succ_cons, nbs]
      omega
/-- a tuple of as many items as there are small boxes -/
def spBoxes (K : PySem.W.Frag) (n : Nat) : Sp := fun vs H Q _ => ∃ (v : V) (d : D), vs = [v] ∧ Dr K H d v ∧ BxA d ∧ nb d ≤ 400 ∧ dep d + 1 ≤ n ∧ ∀ p xs H', Same H H' → SqT K H' p xs → xs.length = nb d → Q (.ref p) H'
theorem bxa_kid {ps : List D} {i : Nat} {d : D} (hl : BxAs ps) (h : ps[i]? = some d) : BxA d := by
  induction ps generalizing i with
  | nil => simp at h
  | cons x ps ih =>
    simp only [BxAs] at hl
    cases i with
    | zero =>
      have z : x = d := by simpa using h
      subst z
      exact hl.1
    | succ i => exact ih hl.2 (i := i) (by simpa using h)
theorem ok_boxes {P : Program} {w : World} {K : PySem.W.Frag} {mg : Str → Option Value} {base : Heap} (T : Tp0 w K mg) (F : D0 K mg "boxes_of" s_boxes_of ["drawing"])
    (c_is_small : C8.Cal P w K mg base 1 "is_small" (spSmall K) []) : ∀ n, C8.Cal P w K mg base (n + 2) "boxes_of" (spBoxes K n) []
  | 0 => F.vac fun vs H Q E h => by
    obtain ⟨_, _, _, _, _, _, h, _⟩ := h
    omega
  | n + 1 => by
    have c_boxes_of := ok_boxes T F c_is_small n
    refine F.ok sc_boxes_of (fun vs H Q E h => ?_) (fun f cdv A outer s H vs Q E hr h => ?_)
    · obtain ⟨_, _, rfl, _⟩ := h
      rfl
    obtain ⟨v, d, rfl, hD, hB, h4, hn, q⟩ := h
    refine ⟨_, (pss_cons (ps_if (pt_val (C8.pe_c c_is_small hr (by omega) rfl (pa_cons (pv 0) pa_nil)))
      (pss_one (ps_ret (pe_tup (pa_cons (pv 0) pa_nil))))
      pss_nil)
    (pss_cons (ps_set (i := 1) sc_boxes_of.nd rfl (Or.inl rfl) (pe_lst pa_nil))
    (pss_cons (ps_for PassesOwn.never rfl (pi_tup (pe_ix ix_tup (pv 0) pe_int (fun _ _ => rfl))) (pg_name (i := 2) sc_boxes_of.nd rfl (Or.inl rfl))
      (pss_one (ps_expr (pe_bm PySem.F.plainAttrs_list PySem.F.slot_list_extend PySem.F.type_list_extend mt_extT (pv 1) (pa_cons (C8.pe_c c_boxes_of hr (by omega) rfl (pa_cons (pv 2) pa_nil)) pa_nil)))))
    (pss_one (ps_ret (pe_callTy call_tuple_of rfl T.tuple bo_tuple (pa_cons (pv 1) pa_nil))))))), ?_⟩
    refine ⟨_, rfl, v, d, rfl, hD, hB, fun H1 s1 => ⟨_, rfl, ?_⟩⟩
    cases d with
    | bx i k =>
      refine iteT ⟨_, rfl, by show 1 ≤ sizeLine; decide, fun t ht => ?_⟩
      exact q t _ _ (s1.trans (same_new ht)) (SqT.of upd_same) (by simp [nb])
    | br b ps =>
      have hD1 := s1.dr hD
      simp only [Dr] at hD1
      obtain ⟨a, p, vs, rfl, h1, h2, h3⟩ := hD1
      have hlen := h3.len
      simp only [nb] at h4 q
      simp only [BxA] at hB
      simp only [dep] at hn
      refine iteF ⟨Nat.zero_le _, fun o ho => ?_⟩
      have s2 : Same H1 (upd H1 o (.lst [])) := same_new ho
      refine ⟨_, rfl, _, _, _, _, rfl, rfl, s2.tup h1, rfl, _, rfl, ⟨_, s2.tup h2⟩, ?_⟩
      refine for_tup (xs := vs) (fun i σ H' => ∃ y2 xs, σ = [some (.ref a), some (.ref o), y2] ∧ Same H1 H' ∧ H' o = some (.lst xs) ∧ xs.length = nbs (ps.take i)) ⟨_, [], rfl, s2, upd_same, by simp [nbs]⟩ (fun i σ H' hi hP => ?_) (fun i x σ H' ex hP => ?_) (fun σ H' hP => ?_)
      · obtain ⟨y2, xs, rfl, e, _⟩ := hP
        exact e.tup h2
      · obtain ⟨y2, xs, rfl, e, eo, el⟩ := hP
        obtain ⟨d', ed, hd'⟩ := h3.get ex
        have k1 := dep_kid ed
        have k2 := nbs_kid ed
        have k3 := nbs_take ps (i + 1)
        refine ⟨_, rfl, .inl ⟨rfl, _, SqL.of eo⟩, _, rfl, _, d', rfl, e.dr hd', bxa_kid hB ed, by omega, by omega, fun p2 zs H2 s3 hp2 hz => ?_⟩
        have z1 : xs.length + zs.length ≤ 100000 := by omega
        refine ⟨o, p2, xs, zs, rfl, rfl, s3 _ _ eo, hp2, Nat.le_trans z1 (by decide), ?_⟩
        refine ⟨_, xs ++ zs, rfl, (e.trans s3).mut ho, upd_same, ?_⟩
        rw [List.length_append, el, hz, k2]
      · obtain ⟨y2, xs, rfl, e, eo, el⟩ := hP
        rw [List.take_of_length_le (by omega)] at el
        refine ⟨_, rfl, _, _, rfl, .inl ⟨SqL.of eo, fun t ht => ?_⟩⟩
        exact q t xs _ (s1.trans (e.trans (same_new ht))) (SqT.of upd_same) el
end K9

set_option maxHeartbeats 4000000
namespace K9
open PySem PySem.Spec L2
/-- values that stand for items, one by one -/
structure Lk {α : Type} (R : α → V → Prop) (ps : List α) (vs : List V) : Prop where
  len : vs.length = ps.length
  get : ∀ (i : Nat) (d : α), ps[i]? = some d → ∃ v, vs[i]? = some v ∧ R d v
theorem Lk.nil {α : Type} {R : α → V → Prop} : Lk R [] [] := ⟨rfl, fun i d e => by simp at e⟩
theorem Lk.mono {α : Type} {R R' : α → V → Prop} {ps : List α} {vs : List V} (h : Lk R ps vs) (f : ∀ d v, R d v → R' d v) : Lk R' ps vs :=
  ⟨h.len, fun i d e => let ⟨v, e1, r⟩ := h.get i d e; ⟨v, e1, f d v r⟩⟩
theorem Lk.app {α : Type} {R : α → V → Prop} {ps qs : List α} {vs ws : List V} (h : Lk R ps vs) (h' : Lk R qs ws) : Lk R (ps ++ qs) (vs ++ ws) := by
  refine ⟨by rw [List.length_append, List.length_append, h.len, h'.len], fun i d e => ?_⟩
  by_cases hi : i < ps.length
  · rw [List.getElem?_append_left hi] at e
    obtain ⟨v, e1, r⟩ := h.get i d e
    exact ⟨v, by rw [List.getElem?_append_left (by rw [h.len]; exact hi)]; exact e1, r⟩
  · rw [List.getElem?_append_right (by omega)] at e
    obtain ⟨v, e1, r⟩ := h'.get _ d e
    exact ⟨v, by rw [List.getElem?_append_right (by rw [h.len]; omega), h.len]; exact e1, r⟩
theorem Lk.one {α : Type} {R : α → V → Prop} {d : α} {v : V} (r : R d v) : Lk R [d] [v] := ⟨rfl, fun i x e => by
  cases i with
  | zero => have z : d = x := by simpa using e
            subst z
            exact ⟨v, rfl, r⟩
  | succ i => simp at e⟩
theorem Lk.snoc {α : Type} {R : α → V → Prop} {ps : List α} {vs : List V} {i : Nat} {d : α} {v : V} (h : Lk R (ps.take i) vs) (e : ps[i]? = some d) (r : R d v) : Lk R (ps.take (i + 1)) (vs ++ [v]) := by
  rw [List.take_add_one, e]
  exact h.app (.one r)
theorem Lk.full {α : Type} {R : α → V → Prop} {ps : List α} {vs : List V} {n : Nat} (h : Lk R (ps.take n) vs) (e : ps.length ≤ n) : Lk R ps vs := by
  rwa [List.take_of_length_le e] at h
theorem Lk.back {α : Type} {R : α → V → Prop} {ps : List α} {vs : List V} (h : Lk R ps vs) {i : Nat} {v : V} (e : vs[i]? = some v) : ∃ d, ps[i]? = some d ∧ R d v := by
  have hi := (List.getElem?_eq_some_iff.mp e).1
  have hl := h.len
  have ed : ps[i]? = some (ps[i]'(by omega)) := List.getElem?_eq_getElem (by omega)
  obtain ⟨v', e', r⟩ := h.get i _ ed
  rw [e] at e'
  cases e'
  exact ⟨_, ed, r⟩
theorem Drs.lk {K : PySem.W.Frag} {H : Hp} {ps : List D} {vs : List V} (h : Drs K H ps vs) : Lk (Dr K H) ps vs := ⟨h.len, fun i d e => h.at e⟩
theorem Lk.drs {K : PySem.W.Frag} {H : Hp} : ∀ {ps : List D} {vs : List V}, Lk (Dr K H) ps vs → Drs K H ps vs
  | [], vs, h => by
    simp only [Drs]
    exact List.eq_nil_of_length_eq_zero h.len
  | d :: ps, vs, h => by
    have hl := h.len
    match vs, hl with
    | [], hl => simp at hl
    | v :: r, hl =>
      simp only [Drs]
      obtain ⟨v', e, h0⟩ := h.get 0 d rfl
      have z : v = v' := by simpa using e
      subst z
      exact ⟨v, r, rfl, h0, Lk.drs ⟨by simpa using hl, fun i x ex => by simpa using h.get (i + 1) x (by simpa using ex)⟩⟩
theorem atI_last1 {α : Type} {xs : List α} {v : α} (h : xs[xs.length - 1]? = some v) : atI xs (-1) = some v := by
  have hi := (List.getElem?_eq_some_iff.mp h).1
  unfold atI ixN
  rw [if_neg (by omega), if_pos (by omega)]
  show xs[((-1 : Int) + (xs.length : Int)).toNat]? = some v
  rw [show ((-1 : Int) + (xs.length : Int)).toNat = xs.length - 1 by omega]
  exact h
/-! ### ends -/
def EnR (K : PySem.W.Frag) (H : Hp) (d : D) (v : V) : Prop := ∃ p, v = .ref p ∧ SqT K H p [.int ((en d).1 : Int), .int ((en d).2 : Int)]
theorem Kp.enR {K : PySem.W.Frag} {H H' : Hp} (e : Kp H H') {d : D} {v : V} (h : EnR K H d v) : EnR K H' d v := let ⟨p, e1, h⟩ := h; ⟨p, e1, e.tup h⟩
theorem enL_at {ps : List D} {d : D} (h : ps[0]? = some d) : enL ps = (en d).1 := by
  cases ps with
  | nil => simp at h
  | cons x r =>
    have z : x = d := by simpa using h
    subst z
    simp [enL]
theorem enR_at : ∀ {ps : List D} {d : D}, ps[ps.length - 1]? = some d → enR ps = (en d).2
  | [], _, h => by simp at h
  | [x], d, h => by
    have z : x = d := by simpa using h
    subst z
    simp [enR]
  | x :: y :: r, d, h => by
    rw [enR]
    exact enR_at (ps := y :: r) (by simpa using h)
theorem sumL_eq (ps : List D) : (ps.map fun d => ((en d).1 : Int)).sum = (sumL ps : Int) := by
  induction ps with
  | nil => simp [sumL]
  | cons d ps ih =>
    rw [List.map_cons, List.sum_cons, ih, sumL]
    omega
theorem sumR_eq (ps : List D) : (ps.map fun d => ((en d).2 : Int)).sum = (sumR ps : Int) := by
  induction ps with
  | nil => simp [sumR]
  | cons d ps ih =>
    rw [List.map_cons, List.sum_cons, ih, sumR]
    omega
theorem kw_eqB : ∀ b, decide (V.str (kw b) = V.str ("behind" : Str)) = b := by decide +kernel
theorem tyes {σ : L2.St} {H : Hp} {A B : Hp → Prop} (h : A H) : tYes σ H (fun b H3 => if b = true then A H3 else B H3) := by
  show (if true = true then A H else B H)
  rw [if_pos rfl]
  exact h
abbrev s_ends_of : Stmt := top 18
abbrev N_ends_of : List Str := ["drawing", "word", "parts", "sides", "own", "left", "right"]
theorem sc_ends_of : FnScope N_ends_of ["drawing"] (C8.fnScope s_ends_of) := C8.fnScope_by (by decide +kernel)
/-- the ends of a drawing, a pair -/
def spEnds (K : PySem.W.Frag) (n : Nat) : Sp := fun vs H Q _ => ∃ (v : V) (d : D) (l r : Nat), vs = [v] ∧ Dr K H d v ∧ Tp d l r ∧ sz d ≤ 5000 ∧ dep d + 1 ≤ n ∧ ∀ p H', Same H H' → SqT K H' p [.int (l : Int), .int (r : Int)] → Q (.ref p) H'
theorem sz_kid {ps : List D} {i : Nat} {d : D} (h : ps[i]? = some d) : sz d ≤ szs ps := by
  induction ps generalizing i with
  | nil => simp at h
  | cons x ps ih =>
    cases i with
    | zero =>
      have z : x = d := by simpa using h
      subst z
      simp only [szs]
      omega
    | succ i =>
      have z := ih (i := i) (by simpa using h)
      simp only [szs]
      omega
theorem lt_size {n : Nat} (h : n < 100000) : n < sizeLine := Nat.lt_of_lt_of_le h (by decide)
theorem ok_ends {P : Program} {w : World} {K : PySem.W.Frag} {mg : Str → Option Value} {base : Heap} (T : Tp0 w K mg) (F : D0 K mg "ends_of" s_ends_of ["drawing"])
    (c_is_small : C8.Cal P w K mg base 1 "is_small" (spSmall K) []) : ∀ n, C8.Cal P w K mg base (n + 2) "ends_of" (spEnds K n) []
  | 0 => F.vac fun vs H Q E h => by
    obtain ⟨_, _, _, _, _, _, _, _, h, _⟩ := h
    omega
  | n + 1 => by
    have c_ends_of := ok_ends T F c_is_small n
    refine F.ok sc_ends_of (fun vs H Q E h => ?_) (fun f cdv A outer s H vs Q E hr h => ?_)
    · obtain ⟨_, _, _, _, rfl, _⟩ := h
      rfl
    obtain ⟨v, d, l, r, rfl, hD, hT, hz, hn, q⟩ := h
    refine ⟨_, (pss_cons (ps_if (pt_val (C8.pe_c c_is_small hr (by omega) rfl (pa_cons (pv 0) pa_nil)))
      (pss_one (ps_ret (pe_ix ix_kdict (C8.pe_gc rfl T.BOX_ENDS) (pe_ix ix_tup (pv 0) pe_int (fun _ _ => rfl)) (fun _ _ => rfl))))
      pss_nil)
    (pss_cons (ps_asg (pv 0) (pg_tup rfl (pgs_cons (pg_name (i := 1) sc_ends_of.nd rfl (Or.inl rfl)) (pgs_cons (pg_name (i := 2) sc_ends_of.nd rfl (Or.inl rfl)) pgs_nil))))
    (pss_cons (ps_setLc (i := 3) (own := [("own", 4)]) (g := gName 4) (tt := tYes) rfl sc_ends_of.nd rfl rfl (sw_true rfl rfl rfl (by decide +kernel)) (pi_tup (pv 2)) (blkOk_by (N := N_ends_of) (sc := C8.fnScope s_ends_of) (by decide +kernel)) (fun _ _ _ _ _ => (pg_name (i := 4) sc_ends_of.nd rfl (Or.inl rfl))) (fun _ _ _ _ _ => pts_nil) (fun _ _ _ _ _ => (C8.pe_c c_ends_of hr (by omega) rfl (pa_cons (pv 4) pa_nil))))
    (pss_cons (ps_if (pt_cmpR op_eq (pv 1) pe_str (nomark _))
      (pss_one (ps_ret (pe_tup (pa_cons (pe_ix ix_tup (pe_ix ix_list (pv 3) pe_int (fun _ _ => rfl)) pe_int (fun _ _ => rfl)) (pa_cons (pe_ix ix_tup (pe_ix ix_list (pv 3) (pe_un un_neg pe_int) (fun _ _ => rfl)) pe_int (fun _ _ => rfl)) pa_nil)))))
      pss_nil)
    (pss_one (ps_ret (pe_tup (pa_cons (pe_callB (cr_sum rfl) rfl T.sum bo_sum (pa_cons (pe_lc (own := [("left", 5), ("right", 6)]) (g := gTup _ 2 (gCons (gName 5) (gCons (gName 6) gNil))) (tt := tYes) rfl sc_ends_of.nd (pi_list (pv 3)) (blkOk_by (N := N_ends_of) (sc := C8.fnScope s_ends_of) (by decide +kernel)) (fun _ _ _ _ _ => (pg_tup rfl (pgs_cons (pg_name (i := 5) sc_ends_of.nd rfl (Or.inl rfl)) (pgs_cons (pg_name (i := 6) sc_ends_of.nd rfl (Or.inl rfl)) pgs_nil)))) (fun _ _ _ _ _ => pts_nil) (fun _ _ _ _ _ => (pv 5))) pa_nil)) (pa_cons (pe_callB (cr_sum rfl) rfl T.sum bo_sum (pa_cons (pe_lc (own := [("left", 5), ("right", 6)]) (g := gTup _ 2 (gCons (gName 5) (gCons (gName 6) gNil))) (tt := tYes) rfl sc_ends_of.nd (pi_list (pv 3)) (blkOk_by (N := N_ends_of) (sc := C8.fnScope s_ends_of) (by decide +kernel)) (fun _ _ _ _ _ => (pg_tup rfl (pgs_cons (pg_name (i := 5) sc_ends_of.nd rfl (Or.inl rfl)) (pgs_cons (pg_name (i := 6) sc_ends_of.nd rfl (Or.inl rfl)) pgs_nil)))) (fun _ _ _ _ _ => pts_nil) (fun _ _ _ _ _ => (pv 6))) pa_nil)) pa_nil))))))))), ?_⟩
    refine ⟨_, rfl, v, d, rfl, hD, Tp_BxA hT, fun H1 s1 => ⟨_, rfl, ?_⟩⟩
    have hen := Tp_en hT
    cases d with
    | bx i k =>
      simp only [Tp] at hT
      obtain ⟨hb, rfl, rfl⟩ := hT
      have hD1 := s1.dr hD
      simp only [Dr] at hD1
      obtain ⟨a, rfl, h1⟩ := hD1
      obtain ⟨p, hk, hp⟩ := T.ends i hb.1
      exact iteT ⟨_, rfl, _, _, _, _, rfl, rfl, h1, bv_at0 i k, _, _, _, rfl, rfl, hk, q p H1 s1 (hp H1)⟩
    | br b ps =>
      have hD1 := s1.dr hD
      simp only [Dr] at hD1
      obtain ⟨a, p, vs, rfl, h1, h2, h3⟩ := hD1
      have hlen := h3.len
      have hls := len_szs ps
      simp only [sz] at hz
      simp only [dep] at hn
      refine iteF ⟨_, rfl, a, _, rfl, h1, rfl, _, _, rfl, _, _, rfl, rfl, ?_⟩
      refine ⟨_, rfl, p, rfl, ⟨_, h2⟩, fun o ho => ?_⟩
      refine lc_tup (xs := vs) (fun i H' => Same H1 H' ∧ ∃ ss, H' o = some (.lst ss) ∧ Lk (EnR K H') (ps.take i) ss) ⟨same_new ho, [], upd_same, .nil⟩ (fun i H' hi hP => hP.1.tup h2) (fun i x H' ex hP => ?_) (fun H' hP => ?_)
      · obtain ⟨e, ss, eo, hs⟩ := hP
        obtain ⟨d', ed, hd'⟩ := h3.get ex
        obtain ⟨l', r', hT'⟩ := kids hT i d' ed
        have k1 := dep_kid ed
        have k2 := sz_kid ed
        have k3 := hs.len
        rw [List.length_take] at k3
        refine ⟨rfl, tyes ⟨_, rfl, x, d', l', r', rfl, e.dr hd', hT', by omega, by omega, fun p2 H2 s2 hp2 => ?_⟩⟩
        refine ⟨ss, s2 _ _ eo, lt_size (by omega), (e.trans s2).mut ho, _, upd_same, ?_⟩
        have kk : Kp H' (upd H2 o (.lst (ss ++ [.ref p2]))) := s2.kp.trans (kp_lst (s2 _ _ eo))
        refine (hs.mono fun d v h => kk.enR h).snoc ed ⟨p2, rfl, ?_⟩
        rw [Tp_en hT']
        exact (kp_lst (s2 _ _ eo)).tup hp2
      · obtain ⟨e, ss, eo, hs⟩ := hP
        have hs := hs.full (by omega)
        have hsl := hs.len
        refine ⟨_, rfl, rfl, _, rfl, ?_⟩
        rw [show decide (V.str (kw b) = V.str "behind") = b from kw_eqB b]
        cases b with
        | true =>
          have hne := tp_ne hT rfl
          have hpos : 0 < ps.length := List.length_pos_iff.mpr hne
          have e0 : ps[0]? = some ps[0] := List.getElem?_eq_getElem hpos
          have e1 : ps[ps.length - 1]? = some (ps[ps.length - 1]'(by omega)) := List.getElem?_eq_getElem (by omega)
          obtain ⟨v0, f0, p0, rfl, g0⟩ := hs.get 0 _ e0
          obtain ⟨v1, f1, p1, rfl, g1⟩ := hs.get _ _ e1
          rw [← hsl] at f1
          simp only [en, Prod.mk.injEq] at hen
          refine iteT ⟨_, rfl, _, _, _, _, rfl, rfl, SqL.of eo, atI_nat (j := 0) f0, _, _, _, _, rfl, rfl, g0, rfl, _, rfl, 1, rfl, _, _, _, _, rfl, rfl, SqL.of eo, atI_last1 f1, _, _, _, _, rfl, rfl, g1, rfl, by show 2 ≤ sizeLine; decide, fun t ht => ?_⟩
          refine q t _ (s1.trans (e.trans (same_new ht))) (SqT.of ?_)
          rw [upd_same, ← hen.1, ← hen.2, enL_at e0, enR_at e1]
        | false =>
          simp only [en, Prod.mk.injEq] at hen
          refine iteF ⟨_, rfl, o, rfl, ⟨_, SqL.of eo⟩, fun o1 ho1 => ?_⟩
          refine lc_list (xs := ss) (fun i H2 => Same H' H2 ∧ H2 o1 = some (.lst (((ps.take i).map fun d => ((en d).1 : Int)).map V.int))) ⟨same_new ho1, upd_same⟩ (fun i H2 hi hP => SqL.of (hP.1 _ _ eo)) (fun i x H2 ex hP => ?_) (fun H2 hP => ?_)
          · obtain ⟨e2, eo1⟩ := hP
            obtain ⟨d', ed, p2, rfl, hp2⟩ := hs.back ex
            have k4 := (List.getElem?_eq_some_iff.mp ed).1
            refine ⟨_, _, rfl, e2.tup hp2, rfl, _, _, rfl, _, _, rfl, rfl, rfl, tyes ⟨_, rfl, _, eo1, lt_size (by simp [List.length_take]; omega), e2.mut ho1, ?_⟩⟩
            rw [upd_same, List.take_add_one, ed, List.map_append, List.map_append]
            rfl
          · obtain ⟨e2, eo1⟩ := hP
            rw [List.take_of_length_le (by omega)] at eo1
            refine ⟨_, _, rfl, SqL.of eo1, ?_⟩
            have eo2 := e2 _ _ eo
            refine ⟨_, rfl, o, rfl, ⟨_, SqL.of eo2⟩, fun o2 ho2 => ?_⟩
            refine lc_list (xs := ss) (fun i H3 => Same H2 H3 ∧ H3 o2 = some (.lst (((ps.take i).map fun d => ((en d).2 : Int)).map V.int))) ⟨same_new ho2, upd_same⟩ (fun i H3 hi hP => SqL.of (hP.1 _ _ eo2)) (fun i x H3 ex hP => ?_) (fun H3 hP => ?_)
            · obtain ⟨e3, eo3⟩ := hP
              obtain ⟨d', ed, p2, rfl, hp2⟩ := hs.back ex
              have k4 := (List.getElem?_eq_some_iff.mp ed).1
              refine ⟨_, _, rfl, (e2.trans e3).tup hp2, rfl, _, _, rfl, _, _, rfl, rfl, rfl, tyes ⟨_, rfl, _, eo3, lt_size (by simp [List.length_take]; omega), e3.mut ho2, ?_⟩⟩
              rw [upd_same, List.take_add_one, ed, List.map_append, List.map_append]
              rfl
            · obtain ⟨e3, eo3⟩ := hP
              rw [List.take_of_length_le (by omega)] at eo3
              refine ⟨_, _, rfl, SqL.of eo3, by show 2 ≤ sizeLine; decide, fun t ht => ?_⟩
              refine q t _ (s1.trans (e.trans (e2.trans (e3.trans (same_new ht))))) (SqT.of ?_)
              rw [upd_same, ← hen.1, ← hen.2, sumL_eq, sumR_eq]
end K9

set_option maxHeartbeats 4000000
namespace K9
open PySem PySem.Spec L2
theorem Ch_adj : ∀ {ps : List D} {l r : Nat} {i : Nat} {d e : D}, Ch ps l r → ps[i]? = some d → ps[i + 1]? = some e → (en d).2 = (en e).1
  | [], _, _, _, _, _, _, h, _ => by simp at h
  | x :: ps, l, r, 0, d, e, h, h1, h2 => by
    simp only [Ch] at h
    obtain ⟨m, t1, t2⟩ := h
    have z : x = d := by simpa using h1
    subst z
    rw [Tp_en t1]
    cases ps with
    | nil => simp at h2
    | cons y ps =>
      have z : y = e := by simpa using h2
      subst z
      simp only [Ch] at t2
      obtain ⟨m', t3, _⟩ := t2
      rw [Tp_en t3]
  | x :: ps, l, r, i + 1, d, e, h, h1, h2 => by
    simp only [Ch] at h
    obtain ⟨m, t1, t2⟩ := h
    exact Ch_adj (i := i) t2 (by simpa using h1) (by simpa using h2)
theorem any_rep (n : Nat) : (List.replicate n false).any id = false := by
  induction n with
  | zero => rfl
  | succ n ih => rw [List.replicate_succ, List.any_cons, ih]; rfl
abbrev s_ends_error : Stmt := top 16
abbrev N_ends_error : List Str := ["drawing", "way", "word", "parts", "place", "error", "sides", "own"]
theorem sc_ends_error : FnScope N_ends_error ["drawing", "way"] (C8.fnScope s_ends_error) := C8.fnScope_by (by decide +kernel)
/-- of a drawing whose parts hang together: nothing is wrong -/
def spEndsErr (K : PySem.W.Frag) (n : Nat) : Sp := fun vs H Q _ => ∃ (v : V) (d : D) (a : Addr) (ws : List V) (l r : Nat), vs = [v, .ref a] ∧ Dr K H d v ∧ Tp d l r ∧ sz d ≤ 5000 ∧ SqT K H a ws ∧ ws.length + dep d ≤ 1000 ∧ dep d + 1 ≤ n ∧ ∀ H', Same H H' → Q .non H'
theorem ok_endsErr {P : Program} {w : World} {K : PySem.W.Frag} {mg : Str → Option Value} {base : Heap} (T : Tp0 w K mg) (F : D0 K mg "ends_error" s_ends_error ["drawing", "way"])
    (c_is_small : C8.Cal P w K mg base 1 "is_small" (spSmall K) []) (c_ends : ∀ n, C8.Cal P w K mg base (n + 2) "ends_of" (spEnds K n) []) : ∀ n, C8.Cal P w K mg base (n + 3) "ends_error" (spEndsErr K n) []
  | 0 => F.vac fun vs H Q E h => by
    obtain ⟨_, _, _, _, _, _, _, _, _, _, _, _, h, _⟩ := h
    omega
  | n + 1 => by
    have c_ends_error := ok_endsErr T F c_is_small c_ends n
    have c_ends_of := c_ends (n + 1)
    refine F.ok sc_ends_error (fun vs H Q E h => ?_) (fun f cdv A outer s H vs Q E hr h => ?_)
    · obtain ⟨_, _, _, _, _, _, rfl, _⟩ := h
      rfl
    obtain ⟨v, d, aw, ws, l, r, rfl, hD, hT, hz, hw, h1000, hn, q⟩ := h
    refine ⟨_, (pss_cons (ps_if (pt_val (C8.pe_c c_is_small hr (by omega) rfl (pa_cons (pv 0) pa_nil)))
      (pss_one (ps_ret pe_non))
      pss_nil)
    (pss_cons (ps_asg (pv 0) (pg_tup rfl (pgs_cons (pg_name (i := 2) sc_ends_error.nd rfl (Or.inl rfl)) (pgs_cons (pg_name (i := 3) sc_ends_error.nd rfl (Or.inl rfl)) pgs_nil))))
    (pss_cons (ps_for PassesOwn.never rfl (pi_range1 rfl T.range (pa_cons (pe_callB call_len_seq rfl T.len bo_len (pa_cons (pv 3) pa_nil)) pa_nil)) (pg_name (i := 4) sc_ends_error.nd rfl (Or.inl rfl))
      (pss_cons (ps_set (i := 5) sc_ends_error.nd rfl (Or.inl rfl) (C8.pe_c c_ends_error hr (by omega) rfl (pa_cons (pe_ix (r := rIxT K) ix_tup (pv 3) (pv 4) (fun _ _ => rfl)) (pa_cons (pe_op op_catA (pv 1) (pe_tup (pa_cons (pv 4) pa_nil))) pa_nil))))
        (pss_one (ps_if (pt_cmpR op_notN (pv 5) pe_non (nomark _))
          (pss_one (ps_ret (pv 5)))
          pss_nil))))
    (pss_cons (ps_set (i := 6) sc_ends_error.nd rfl (Or.inr rfl) (pe_lc (own := [("own", 7)]) (g := gName 7) (tt := tYes) rfl sc_ends_error.nd (pi_tup (pv 3)) (blkOk_by (N := N_ends_error) (sc := C8.fnScope s_ends_error) (by decide +kernel)) (fun _ _ _ _ _ => (pg_name (i := 7) sc_ends_error.nd rfl (Or.inl rfl))) (fun _ _ _ _ _ => pts_nil) (fun _ _ _ _ _ => (C8.pe_c c_ends_of hr (by omega) rfl (pa_cons (pv 7) pa_nil)))))
    (pss_cons (ps_if (PW.pt (pw_and (pt_cmpR op_eq (pv 2) pe_str (nomark _)) (pw_and1 (pt_val (pe_callB (cr_any rfl) rfl T.any bo_any (pa_cons (pe_lc (own := [("place", 4)]) (g := gName 4) (tt := tYes) rfl sc_ends_error.nd (pi_range1 rfl T.range (pa_cons (pe_op op_sub (pe_callB call_len_seq rfl T.len bo_len (pa_cons (pv 6) pa_nil)) pe_int) pa_nil)) (blkOk_by (N := N_ends_error) (sc := C8.fnScope s_ends_error) (by decide +kernel)) (fun _ _ _ _ _ => (pg_name (i := 4) sc_ends_error.nd rfl (Or.inl rfl))) (fun _ _ _ _ _ => pts_nil) (fun _ _ _ _ _ => (pe_cmpR op_ne (pe_ix (r := rIxT K) ix_tup (pe_ix (r := rIxL K) ix_list (pv 6) (pv 4) (fun _ _ => rfl)) pe_int (fun _ _ => rfl)) (pe_ix (r := rIxT K) ix_tup (pe_ix (r := rIxL K) ix_list (pv 6) (pe_op op_add (pv 4) pe_int) (fun _ _ => rfl)) pe_int (fun _ _ => rfl)) (nomark _)))) pa_nil))))))
      (pss_one (ps_ret (pe_tup (pa_cons (pv 1) (pa_cons pe_str pa_nil)))))
      pss_nil)
    (pss_one (ps_ret (pe_ifExp (pt_cmpR op_gt (pe_callB (cr_maxT rfl) rfl T.max bo_max (pa_cons (C8.pe_c c_ends_of hr (by omega) rfl (pa_cons (pv 0) pa_nil)) pa_nil)) (C8.pe_gc rfl T.MAX_WIDE) (nomark _)) (pe_tup (pa_cons (pv 1) (pa_cons pe_str pa_nil))) pe_non)))))))), ?_⟩
    refine ⟨_, rfl, v, d, rfl, hD, Tp_BxA hT, fun H1 s1 => ⟨_, rfl, ?_⟩⟩
    cases d with
    | bx i k => exact iteT (q H1 s1)
    | br b ps =>
      have hDv := hD
      have hD1 := s1.dr hD
      simp only [Dr] at hD1
      obtain ⟨a, p, vs, rfl, h1, h2, h3⟩ := hD1
      have hlen := h3.len
      have hls := len_szs ps
      have hz0 := hz
      simp only [sz] at hz
      have hn0 := hn
      simp only [dep] at hn h1000
      refine iteF ⟨_, rfl, a, _, rfl, h1, rfl, _, _, rfl, _, _, rfl, rfl, ?_⟩
      refine ⟨_, rfl, _, _, rfl, .inr h2, _, rfl, by omega, by omega, ?_⟩
      refine for_range (lo := 0) (n := ((vs.length : Int)).toNat) (fun i σ H' => ∃ y4 y5, σ = [some (.ref a), some (.ref aw), some (.str (kw b)), some (.ref p), y4, y5, none, none] ∧ Same H1 H') ⟨_, _, rfl, Same.refl _⟩ (fun i σ H' hi hP => ?_) (fun σ H' hP => ?_)
      · obtain ⟨y4, y5, rfl, e⟩ := hP
        have hi' : i < vs.length := by omega
        have ev : vs[i]? = some vs[i] := List.getElem?_eq_getElem hi'
        obtain ⟨d', ed, hd'⟩ := h3.get ev
        obtain ⟨l', r', hT'⟩ := kids hT i d' ed
        have k1 := dep_kid ed
        have k2 := sz_kid ed
        refine ⟨_, rfl, _, rfl, _, _, _, _, rfl, rfl, e.tup h2, at_of (j := i) (by omega) ev, _, rfl, _, rfl, by show 1 ≤ sizeLine; decide, fun t ht => ?_⟩
        have s3 : Same H' (upd H' t (.tup [.int (0 + (i : Int))])) := same_new ht
        have e3 := e.trans s3
        refine catA_ok (e3.tup (s1.tup hw)) (SqT.of upd_same) (by simp; omega) (fun pw H4 s4 hpw => ?_)
        refine ⟨_, d', pw, _, l', r', rfl, (e3.trans s4).dr hd', hT', by omega, hpw, by simp; omega, by omega, fun H5 s5 => ?_⟩
        refine ⟨_, rfl, rfl, _, rfl, iteF ?_⟩
        exact ⟨_, _, rfl, e3.trans (s4.trans s5)⟩
      · obtain ⟨y4, y5, rfl, e⟩ := hP
        refine ⟨_, rfl, p, rfl, ⟨_, e.tup h2⟩, fun o ho => ?_⟩
        refine lc_tup (xs := vs) (fun i H2 => Same H' H2 ∧ ∃ ss, H2 o = some (.lst ss) ∧ Lk (EnR K H2) (ps.take i) ss) ⟨same_new ho, [], upd_same, .nil⟩ (fun i H2 hi hP => hP.1.tup (e.tup h2)) (fun i x H2 ex hP => ?_) (fun H2 hP => ?_)
        · obtain ⟨e2, ss, eo, hs⟩ := hP
          obtain ⟨d', ed, hd'⟩ := h3.get ex
          obtain ⟨l', r', hT'⟩ := kids hT i d' ed
          have k1 := dep_kid ed
          have k2 := sz_kid ed
          have k3 := hs.len
          rw [List.length_take] at k3
          refine ⟨rfl, tyes ⟨_, rfl, x, d', l', r', rfl, (e.trans e2).dr hd', hT', by omega, by omega, fun p2 H3 s2 hp2 => ?_⟩⟩
          refine ⟨ss, s2 _ _ eo, lt_size (by omega), (e2.trans s2).mut ho, _, upd_same, ?_⟩
          have kk : Kp H2 (upd H3 o (.lst (ss ++ [.ref p2]))) := s2.kp.trans (kp_lst (s2 _ _ eo))
          refine (hs.mono fun d v h => kk.enR h).snoc ed ⟨p2, rfl, ?_⟩
          rw [Tp_en hT']
          exact (kp_lst (s2 _ _ eo)).tup hp2
        · obtain ⟨e2, ss, eo, hs⟩ := hP
          have hs := hs.full (by omega)
          have hsl := hs.len
          have e02 := s1.trans (e.trans e2)
          -- behind the test of the places
          have rest : ∀ H5, Same H2 H5 → tRet (tIf (tTest (tOp (rI0 fun i j => .bl (decide (j < i))) (tCB (rMaxT K) (tCons (tCall (spEnds K (n + 1)) [] E0 (tCons (tVar 0) tNil)) tNil)) (tC (.int 16)))) (tTup (tCons (tVar 1) (tCons (tC (.str "wide")) tNil))) (tC .non))
              { nx := fun _ H' => Q .non H', rt := Q } [some (.ref a), some (.ref aw), some (.str (kw b)), some (.ref p), y4, y5, some (.ref o), none] H5 := by
            intro H5 s5
            have e05 := e02.trans s5
            refine ⟨_, rfl, _, _, l, r, rfl, e05.dr hDv, hT, hz0, by omega, fun p6 H6 s6 hp6 => ?_⟩
            refine ⟨p6, [(l : Int), (r : Int)], rfl, hp6, by simp, fun m hm => ⟨_, _, rfl, rfl, _, rfl, ?_⟩⟩
            have hle := Tp_le hT
            have hm' : m = (l : Int) ∨ m = (r : Int) := by simpa using hm
            rw [decide_eq_false (by omega : ¬ ((16 : Int) < m))]
            exact iteF (q _ (e05.trans s6))
          refine ⟨_, rfl, rfl, _, rfl, ?_⟩
          rw [show decide (V.str (kw b) = V.str "behind") = b from kw_eqB b]
          cases b with
          | false => exact iteF (iteF (rest H2 (Same.refl _)))
          | true =>
            have hne := tp_ne hT rfl
            have hpos : 0 < ps.length := List.length_pos_iff.mpr hne
            simp only [Tp] at hT
            refine iteT ⟨_, rfl, _, _, rfl, .inl (SqL.of eo), _, _, rfl, rfl, _, rfl, by omega, by omega, fun o2 ho2 => ?_⟩
            refine lc_range (lo := 0) (n := ((ss.length : Int) - 1).toNat) (fun i H3 => Same H2 H3 ∧ H3 o2 = some (.lst ((List.replicate i false).map V.bl))) ⟨same_new ho2, upd_same⟩ (fun i H3 hi hP => ?_) (fun H3 hP => ?_)
            · obtain ⟨e3, eo2⟩ := hP
              have d1 : ps[i]? = some (ps[i]'(by omega)) := List.getElem?_eq_getElem (by omega)
              have d2 : ps[i + 1]? = some (ps[i + 1]'(by omega)) := List.getElem?_eq_getElem (by omega)
              obtain ⟨v1, f1, p1, rfl, g1⟩ := hs.get _ _ d1
              obtain ⟨v2, f2, p2, rfl, g2⟩ := hs.get _ _ d2
              have adj := Ch_adj hT.2.1 d1 d2
              refine ⟨rfl, tyes ⟨_, rfl, _, rfl, _, _, _, _, rfl, rfl, SqL.of (e3 _ _ eo), at_of (j := i) (by omega) f1, _, _, _, _, rfl, rfl, e3.tup g1, rfl, _, rfl, _, rfl, _, _, rfl, rfl, _, _, _, _, rfl, rfl, SqL.of (e3 _ _ eo), at_of (j := i + 1) (by omega) f2, _, _, _, _, rfl, rfl, e3.tup g2, rfl, rfl, ?_⟩⟩
              rw [adj, decide_eq_true rfl]
              refine ⟨_, eo2, lt_size (by simp; omega), e3.mut ho2, ?_⟩
              rw [upd_same, List.replicate_succ', List.map_append]
              rfl
            · obtain ⟨e3, eo2⟩ := hP
              refine ⟨o2, _, rfl, SqL.of eo2, _, rfl, ?_⟩
              rw [any_rep]
              exact iteF (rest H3 e3)
abbrev s_drawing_error : Stmt := top 17
abbrev N_drawing_error : List Str := ["value", "error"]
theorem sc_drawing_error : FnScope N_drawing_error ["value"] (C8.fnScope s_drawing_error) := C8.fnScope_by (by decide +kernel)
/-- of a drawing nothing is wrong -/
def spDErr (K : PySem.W.Frag) : Sp := fun vs H Q _ => ∃ (v : V) (d : D) (l r : Nat), vs = [v] ∧ Dr K H d v ∧ Tp d l r ∧ Ln d ∧ l + r ≤ 8 ∧ nb d ≤ 400 ∧ dep d ≤ 12 ∧ sz d ≤ 5000 ∧ ∀ H', Same H H' → Q .non H'
theorem ok_dErr {P : Program} {w : World} {K : PySem.W.Frag} {mg : Str → Option Value} {base : Heap} (T : Tp0 w K mg) (F : D0 K mg "drawing_error" s_drawing_error ["value"])
    (c_f : ∀ n, C8.Cal P w K mg base (n + 2) "form_error" (spForm K n) []) (c_b : ∀ n, C8.Cal P w K mg base (n + 2) "boxes_of" (spBoxes K n) [])
    (c_ee : ∀ n, C8.Cal P w K mg base (n + 3) "ends_error" (spEndsErr K n) []) (c_e : ∀ n, C8.Cal P w K mg base (n + 2) "ends_of" (spEnds K n) []) : C8.Cal P w K mg base 20 "drawing_error" (spDErr K) [] := by
  have c_form_error := c_f 13
  have c_boxes_of := c_b 13
  have c_ends_error := c_ee 13
  have c_ends_of := c_e 13
  refine F.ok (k := 19) sc_drawing_error (fun vs H Q E h => ?_) (fun f cdv A outer s H vs Q E hr h => ?_)
  · obtain ⟨_, _, _, _, rfl, _⟩ := h
    rfl
  obtain ⟨v, d, l, r, rfl, hD, hT, hL, h8, h4, h12, hz, q⟩ := h
  refine ⟨_, (pss_cons (ps_set (i := 1) sc_drawing_error.nd rfl (Or.inl rfl) (C8.pe_c c_form_error hr (by omega) rfl (pa_cons (pv 0) (pa_cons (pe_tup pa_nil) pa_nil))))
    (pss_cons (ps_if (pt_cmpR op_notN (pv 1) pe_non (nomark _))
      (pss_one (ps_ret (pv 1)))
      pss_nil)
    (pss_cons (ps_if (pt_cmpR op_gt (pe_callB call_len_seq rfl T.len bo_len (pa_cons (C8.pe_c c_boxes_of hr (by omega) rfl (pa_cons (pv 0) pa_nil)) pa_nil)) (C8.pe_gc rfl T.MAX_BOXES) (nomark _))
      (pss_one (ps_ret (pe_tup (pa_cons (pe_tup pa_nil) (pa_cons pe_str pa_nil)))))
      pss_nil)
    (pss_cons (ps_set (i := 1) sc_drawing_error.nd rfl (Or.inl rfl) (C8.pe_c c_ends_error hr (by omega) rfl (pa_cons (pv 0) (pa_cons (pe_tup pa_nil) pa_nil))))
    (pss_cons (ps_if (pt_cmpR op_notN (pv 1) pe_non (nomark _))
      (pss_one (ps_ret (pv 1)))
      pss_nil)
    (pss_one (ps_ret (pe_ifExp (pt_cmpR op_gt (pe_callB (cr_sumT rfl) rfl T.sum bo_sum (pa_cons (C8.pe_c c_ends_of hr (by omega) rfl (pa_cons (pv 0) pa_nil)) pa_nil)) (C8.pe_gc rfl T.MAX_ENDS) (nomark _)) (pe_tup (pa_cons (pe_tup pa_nil) (pa_cons pe_str pa_nil))) pe_non)))))))), ?_⟩
  refine ⟨_, rfl, Nat.zero_le _, fun t ht => ?_⟩
  have s1 : Same H (upd H t (.tup [])) := same_new ht
  refine ⟨_, d, t, [], l, r, rfl, s1.dr hD, hT, hL, SqT.of upd_same, by simpa using h12, by omega, fun H2 s2 => ?_⟩
  refine ⟨_, rfl, rfl, _, rfl, iteF ?_⟩
  have s12 := s1.trans s2
  refine ⟨_, rfl, _, d, rfl, s12.dr hD, Tp_BxA hT, h4, by omega, fun p xs H3 s3 hp hx => ?_⟩
  refine ⟨p, xs, rfl, .inr hp, _, _, rfl, rfl, _, rfl, ?_⟩
  rw [decide_eq_false (by omega : ¬ ((400 : Int) < (xs.length : Int)))]
  have s13 := s12.trans s3
  refine iteF ⟨_, rfl, Nat.zero_le _, fun t2 ht2 => ?_⟩
  have s4 : Same H3 (upd H3 t2 (.tup [])) := same_new ht2
  have s14 := s13.trans s4
  refine ⟨_, d, t2, [], l, r, rfl, s14.dr hD, hT, hz, SqT.of upd_same, by simp; omega, by omega, fun H5 s5 => ?_⟩
  refine ⟨_, rfl, rfl, _, rfl, iteF ?_⟩
  have s15 := s14.trans s5
  refine ⟨_, rfl, _, d, l, r, rfl, s15.dr hD, hT, hz, by omega, fun p6 H6 s6 hp6 => ?_⟩
  refine ⟨p6, [(l : Int), (r : Int)], rfl, hp6, _, _, rfl, rfl, _, rfl, ?_⟩
  have e : ([(l : Int), (r : Int)] : List Int).sum = (l : Int) + (r : Int) := by simp
  rw [e, decide_eq_false (by omega : ¬ ((8 : Int) < (l : Int) + (r : Int)))]
  exact iteF (q _ (s15.trans s6))
end K9

set_option maxHeartbeats 4000000
/-! drawings as data: read in the heap, compared with the empty one, shown -/
namespace K9
open PySem PySem.Spec L2
mutual
def pd : D → PyData
  | .bx i k => .tuple (if isnum i then [.str (word i), .int (k : Int)] else [.str (word i)])
  | .br b ps => .tuple [.str (kw b), .tuple (pds ps)]
def pds : List D → List PyData
  | [] => []
  | d :: ps => pd d :: pds ps
end
section
variable {K : PySem.W.Frag} {H : Hp}
mutual
theorem Dr.dp : ∀ {d : D} {v : V}, Dr K H d v → Dp K H v (pd d)
  | .bx i k, v, h => by
    simp only [Dr] at h
    obtain ⟨a, rfl, h⟩ := h
    simp only [pd]
    refine .tup h ?_
    unfold bv
    by_cases c : isnum i = true
    · rw [if_pos c, if_pos c]
      exact .cons (.str _) (.cons (.int _) .nil)
    · rw [if_neg c, if_neg c]
      exact .cons (.str _) .nil
  | .br b ps, v, h => by
    simp only [Dr] at h
    obtain ⟨a, p, vs, rfl, h1, h2, h3⟩ := h
    simp only [pd]
    exact .tup h1 (.cons (.str _) (.cons (.tup h2 (Drs.dp h3)) .nil))
theorem Drs.dp : ∀ {ps : List D} {vs : List V}, Drs K H ps vs → DpAll K H vs (pds ps)
  | [], vs, h => by
    simp only [Drs] at h
    subst h
    simp only [pds]
    exact .nil
  | d :: ps, vs, h => by
    simp only [Drs] at h
    obtain ⟨v, r, rfl, h1, h2⟩ := h
    simp only [pds]
    exact .cons (Dr.dp h1) (Drs.dp h2)
end
end
theorem w_lt {i : Nat} (h : i < 14) : PyData.strOk (word i) = true := (by decide +kernel : ∀ i, i < 14 → PyData.strOk (word i) = true) i h
theorem kw_lt (b : Bool) : PyData.strOk (kw b) = true := by cases b <;> decide +kernel
mutual
theorem lay_pd : ∀ {d : D}, BxA d → (pd d).canLay0 = true ∧ (pd d).depth ≤ 2 * dep d + 2 ∧ (pd d).showable = true ∧ (pd d).hasDict = false
  | .bx i k, h => by
    simp only [BxA] at h
    obtain ⟨h1, h2, _⟩ := h
    have hk : ((k : Int)).natAbs.log2 < 1920 := by
      rw [Int.natAbs_natCast]
      have := Nat.log2_le_self k
      omega
    have e := w_lt h1
    simp only [pd]
    by_cases c : isnum i = true
    · rw [if_pos c]
      refine ⟨?_, ?_, ?_, ?_⟩
      · simp only [PyData.canLay0, PyData.canLayAll0, e, Bool.and_self]
      · simp only [PyData.depth, PyData.depthAll]; omega
      · simp only [PyData.showable, PyData.showableAll]
        rw [Int.natAbs_natCast] at hk
        simpa using hk
      · simp only [PyData.hasDict, PyData.hasDictAll, Bool.or_self]
    · rw [if_neg c]
      refine ⟨?_, ?_, ?_, ?_⟩
      · simp only [PyData.canLay0, PyData.canLayAll0, e, Bool.and_self]
      · simp only [PyData.depth, PyData.depthAll]; omega
      · simp only [PyData.showable, PyData.showableAll, Bool.and_self]
      · simp only [PyData.hasDict, PyData.hasDictAll, Bool.or_self]
  | .br b ps, h => by
    simp only [BxA] at h
    obtain ⟨h1, h2, h3, h4⟩ := lay_pds h
    simp only [pd, dep]
    refine ⟨?_, ?_, ?_, ?_⟩
    · simp only [PyData.canLay0, PyData.canLayAll0, h1, kw_lt, Bool.and_self]
    · simp only [PyData.depth, PyData.depthAll]; omega
    · simp only [PyData.showable, PyData.showableAll, h3, Bool.and_self]
    · simp only [PyData.hasDict, PyData.hasDictAll, h4, Bool.or_self]
theorem lay_pds : ∀ {ps : List D}, BxAs ps → PyData.canLayAll0 (pds ps) = true ∧ PyData.depthAll (pds ps) ≤ 2 * deps ps ∧ PyData.showableAll (pds ps) = true ∧ PyData.hasDictAll (pds ps) = false
  | [], _ => by simp [pds, PyData.canLayAll0, PyData.depthAll, PyData.showableAll, PyData.hasDictAll, deps]
  | d :: ps, h => by
    simp only [BxAs] at h
    obtain ⟨h1, h2, h3, h4⟩ := lay_pd h.1
    obtain ⟨g1, g2, g3, g4⟩ := lay_pds h.2
    simp only [pds, deps]
    refine ⟨?_, ?_, ?_, ?_⟩
    · simp only [PyData.canLayAll0, h1, g1, Bool.and_self]
    · simp only [PyData.depthAll]; omega
    · simp only [PyData.showableAll, h3, g3, Bool.and_self]
    · simp only [PyData.hasDictAll, h4, g4, Bool.or_self]
end
theorem sh_pd {d : D} (h : BxA d) (hd : dep d ≤ 30) : SeqAt.shaped (pd d) = true := by
  obtain ⟨h1, h2, _, _⟩ := lay_pd h
  simp only [SeqAt.shaped, h1, Bool.true_and, decide_eq_true_eq]
  omega
def isE : D → Bool
  | .br false [] => true
  | _ => false
theorem isE_iff {d : D} : isE d = true ↔ d = E0D := by
  cases d with
  | bx i k => simp [isE]
  | br b ps => cases b <;> cases ps <;> simp [isE]
theorem isE_not {d : D} : isE d = false ↔ d ≠ E0D := by rw [← Bool.not_eq_true, isE_iff]
theorem eqv_E0 {d : D} (h : BxA d) : PyData.eqv (pd d) (pd E0D) = isE d := by
  cases d with
  | bx i k =>
    simp only [BxA] at h
    have e : (word i == kw false) = false := (by decide +kernel : ∀ i, i < 14 → (word i == kw false) = false) i h.1
    simp only [pd, E0D, isE]
    by_cases c : isnum i = true
    · rw [if_pos c]
      simp only [PyData.eqv, PyData.eqvAll, e, Bool.false_and]
    · rw [if_neg c]
      simp only [PyData.eqv, PyData.eqvAll, e, Bool.false_and]
  | br b ps =>
    have e : (kw b == kw false) = !b := by cases b <;> decide +kernel
    simp only [pd, pds, E0D]
    cases ps with
    | nil =>
      simp only [PyData.eqv, PyData.eqvAll, e, pds, Bool.and_true]
      cases b <;> rfl
    | cons x ps =>
      simp only [PyData.eqv, PyData.eqvAll, e, pds, Bool.and_false]
      cases b <;> rfl
/-! ### how a drawing is shown -/
def cl (x : Str) : List Nat := x.cps.toList
theorem cl_app (a b : Str) : cl (a ++ b) = cl a ++ cl b := by
  show (Str.append a b).cps.toList = _
  simp [Str.append, cl]
theorem cl_len (a : Str) : a.length = (cl a).length := by simp [cl, Str.length]
theorem cl_inj {a b : Str} (h : cl a = cl b) : a = b := by
  cases a with | mk a => cases b with | mk b =>
  have : a = b := Array.toList_inj.mp h
  rw [this]
def L (d : D) : List Nat := cl (pd d).shown
def hB (b : Bool) : List Nat := 40 :: cl (reprText (kw b)) ++ [44, 32, 40]
/-- what follows behind the first of more -/
def J2 : List D → List Nat
  | [] => [41]
  | d :: ps => [44, 32] ++ L d ++ J2 ps
def J : List D → List Nat
  | [] => [41]
  | d :: ps => L d ++ (if ps = [] then [44, 41] else J2 ps)
theorem cl_c2 : cl (", " : String) = [44, 32] := by decide +kernel
theorem cl_join : ∀ (d : D) (ps : List D), cl (Str.join ", " (PyData.shownAll (pds (d :: ps)))) ++ [41] = L d ++ J2 ps
  | d, [] => by
    simp only [pds, PyData.shownAll, J2]
    rfl
  | d, e :: ps => by
    have ih := cl_join e ps
    simp only [pds, PyData.shownAll, J2] at ih ⊢
    show cl (PyData.shown (pd d) ++ ", " ++ Str.join ", " (PyData.shown (pd e) :: PyData.shownAll (pds ps))) ++ [41] = _
    rw [cl_app, cl_app, cl_c2]
    simp only [List.append_assoc] at ih ⊢
    rw [ih]
    rfl
theorem shAll_len : ∀ ps : List D, (PyData.shownAll (pds ps)).length = ps.length
  | [] => rfl
  | d :: ps => by simp only [pds, PyData.shownAll, List.length_cons, shAll_len ps]
theorem cl_tup (ps : List D) : cl (tupleText (PyData.shownAll (pds ps))) = 40 :: J ps := by
  unfold tupleText
  rw [cl_app, cl_app, shAll_len]
  cases ps with
  | nil => decide +kernel
  | cons d ps =>
    cases ps with
    | nil =>
      simp only [pds, PyData.shownAll, J]
      rfl
    | cons e ps =>
      have h := cl_join d (e :: ps)
      simp only [J]
      have e1 : ((d :: e :: ps).length == 1) = false := by simp
      rw [e1, if_neg (by simp : ¬ (e :: ps = []))]
      have e2 : cl ((if (false = true) then ",)" else ")" : String) : Str) = [41] := by decide +kernel
      rw [e2, List.append_assoc, h]
      rfl
theorem L_br (b : Bool) (ps : List D) : L (.br b ps) = hB b ++ J ps ++ [41] := by
  have h := cl_tup ps
  simp only [L, pd, PyData.shown, PyData.shownAll]
  have e : ∀ x y : Str, cl (tupleText [x, y]) = 40 :: cl x ++ [44, 32] ++ cl y ++ [41] := fun x y => by
    show cl ((("(" : String) : Str) ++ (x ++ ((", " : String) : Str) ++ y) ++ ((")" : String) : Str)) = _
    have e1 : cl ((")" : String) : Str) = [41] := by decide +kernel
    have e2 : cl (("(" : String) : Str) = [40] := by decide +kernel
    rw [cl_app, cl_app, cl_app, cl_app, e1, e2, cl_c2]
    simp
  rw [e, h, hB]
  simp
theorem L_heads : (BX.all fun p => BX.all fun q => p == q || apart (L (.bx p.1 p.2)) (L (.bx q.1 q.2))) = true := by decide +kernel
theorem L_kinds : (BX.all fun p => apart (L (.bx p.1 p.2)) (hB true) && apart (L (.bx p.1 p.2)) (hB false)) = true := by decide +kernel
theorem hB_apart : apart (hB true) (hB false) = true := by decide +kernel
theorem L_short : (BX.all fun p => decide ((L (.bx p.1 p.2)).length ≤ 14) && (L (.bx p.1 p.2)).head? == some 40) = true := by decide +kernel
theorem hB_len (b : Bool) : (hB b).length = 12 ∧ ∃ l, hB b = 40 :: l := by cases b <;> exact ⟨by decide +kernel, _, rfl⟩
theorem no_pre {p q s t : List Nat} (h : apart p q = true) (e : p ++ s = q ++ t) : False := by
  simp only [apart, Bool.and_eq_true, Bool.not_eq_true'] at h
  rcases pre_cases e with c | c
  · rw [h.1] at c
    cases c
  · rw [h.2] at c
    cases c
theorem L_head {d : D} (h : BxA d) : ∃ l, L d = 40 :: l := by
  cases d with
  | bx i k =>
    simp only [BxA] at h
    have z := List.all_eq_true.mp L_short _ (BX_mem h)
    simp only [Bool.and_eq_true, beq_iff_eq] at z
    generalize L (.bx i k) = m at z ⊢
    cases m with
    | nil => simp at z
    | cons x m =>
      have : x = 40 := by simpa using z.2
      exact ⟨m, by rw [this]⟩
  | br b ps =>
    obtain ⟨_, l, e⟩ := hB_len b
    rw [L_br, e]
    exact ⟨_, rfl⟩
theorem apart_symm {p q : List Nat} (h : apart p q = true) : apart q p = true := by
  simp only [apart, Bool.and_eq_true] at h ⊢
  exact ⟨h.2, h.1⟩
mutual
theorem L_inj : ∀ (d e : D) (s t : List Nat), BxA d → BxA e → L d ++ s = L e ++ t → d = e ∧ s = t
  | .bx i k, .bx j m, s, t, h, h', c => by
    simp only [BxA] at h h'
    have z := List.all_eq_true.mp (List.all_eq_true.mp L_heads _ (BX_mem h)) _ (BX_mem h')
    rw [Bool.or_eq_true] at z
    rcases z with z | z
    · have z : (i, k) = (j, m) := by simpa using z
      cases z
      exact ⟨rfl, List.append_cancel_left c⟩
    · exact (no_pre z c).elim
  | .bx i k, .br b ps, s, t, h, h', c => by
    simp only [BxA] at h
    have z := List.all_eq_true.mp L_kinds _ (BX_mem h)
    rw [Bool.and_eq_true] at z
    rw [L_br, List.append_assoc, List.append_assoc] at c
    cases b with
    | true => exact (no_pre z.1 c).elim
    | false => exact (no_pre z.2 c).elim
  | .br b ps, .bx i k, s, t, h, h', c => by
    simp only [BxA] at h'
    have z := List.all_eq_true.mp L_kinds _ (BX_mem h')
    rw [Bool.and_eq_true] at z
    rw [L_br, List.append_assoc, List.append_assoc] at c
    cases b with
    | true => exact (no_pre z.1 c.symm).elim
    | false => exact (no_pre z.2 c.symm).elim
  | .br b ps, .br b' qs, s, t, h, h', c => by
    simp only [BxA] at h h'
    rw [L_br, L_br, List.append_assoc, List.append_assoc, List.append_assoc, List.append_assoc] at c
    have eb : b = b' := by
      cases b <;> cases b'
      · rfl
      · exact (no_pre hB_apart c.symm).elim
      · exact (no_pre hB_apart c).elim
      · rfl
    subst eb
    have c := List.append_cancel_left c
    obtain ⟨e1, e2⟩ := J_inj ps qs _ _ h h' c
    subst e1
    exact ⟨rfl, by simpa using e2⟩
theorem J_inj : ∀ (ps qs : List D) (s t : List Nat), BxAs ps → BxAs qs → J ps ++ s = J qs ++ t → ps = qs ∧ s = t
  | [], [], s, t, _, _, c => by
    simp only [J] at c
    exact ⟨rfl, by simpa using c⟩
  | [], e :: qs, s, t, _, h', c => by
    simp only [BxAs] at h'
    obtain ⟨l, z⟩ := L_head h'.1
    simp only [J, z] at c
    simp at c
  | d :: ps, [], s, t, h, _, c => by
    simp only [BxAs] at h
    obtain ⟨l, z⟩ := L_head h.1
    simp only [J, z] at c
    simp at c
  | d :: ps, e :: qs, s, t, h, h', c => by
    simp only [BxAs] at h h'
    simp only [J, List.append_assoc] at c
    obtain ⟨e1, c'⟩ := L_inj d e _ _ h.1 h'.1 c
    clear c
    have c := c'
    clear c'
    cases e1
    by_cases hp : ps = []
    · subst hp
      by_cases hq : qs = []
      · subst hq
        exact ⟨rfl, by simpa using c⟩
      · obtain ⟨x, r, rfl⟩ := List.exists_cons_of_ne_nil hq
        simp [J2] at c
    · by_cases hq : qs = []
      · subst hq
        obtain ⟨x, r, rfl⟩ := List.exists_cons_of_ne_nil hp
        simp [J2] at c
      · rw [if_neg hp, if_neg hq] at c
        obtain ⟨e2, e3⟩ := J2_inj ps qs s t h.2 h'.2 c
        subst e2
        exact ⟨rfl, e3⟩
theorem J2_inj : ∀ (ps qs : List D) (s t : List Nat), BxAs ps → BxAs qs → J2 ps ++ s = J2 qs ++ t → ps = qs ∧ s = t
  | [], [], s, t, _, _, c => by
    simp only [J2] at c
    exact ⟨rfl, by simpa using c⟩
  | [], e :: qs, s, t, _, h', c => by simp [J2] at c
  | d :: ps, [], s, t, h, _, c => by simp [J2] at c
  | d :: ps, e :: qs, s, t, h, h', c => by
    simp only [BxAs] at h h'
    simp only [J2, List.append_assoc] at c
    obtain ⟨e1, c'⟩ := L_inj d e _ _ h.1 h'.1 (List.append_cancel_left c)
    cases e1
    obtain ⟨e2, e3⟩ := J2_inj ps qs s t h.2 h'.2 c'
    subst e2
    exact ⟨rfl, e3⟩
end
theorem shown_inj {d e : D} (h : BxA d) (h' : BxA e) (c : (pd d).shown = (pd e).shown) : d = e :=
  (L_inj d e [] [] h h' (by simp only [List.append_nil]; exact congrArg cl c)).1
mutual
theorem L_len : ∀ d : D, BxA d → (L d).length + 2 ≤ 20 * sz d
  | .bx i k, h => by
    simp only [BxA] at h
    have z := List.all_eq_true.mp L_short _ (BX_mem h)
    simp only [Bool.and_eq_true, decide_eq_true_eq] at z
    have := z.1
    simp only [sz]
    omega
  | .br b ps, h => by
    simp only [BxA] at h
    have z := J_len ps h
    have y := (hB_len b).1
    rw [L_br]
    simp only [sz, List.length_append, List.length_cons, List.length_nil, y]
    omega
theorem J_len : ∀ ps : List D, BxAs ps → (J ps).length ≤ 20 * szs ps + 2
  | [], _ => by simp [J]
  | d :: ps, h => by
    simp only [BxAs] at h
    have z := L_len d h.1
    have y := J2_len ps h.2
    simp only [J, szs, List.length_append]
    split
    · simp only [List.length_cons, List.length_nil]
      omega
    · omega
theorem J2_len : ∀ ps : List D, BxAs ps → (J2 ps).length ≤ 20 * szs ps + 2
  | [], _ => by simp [J2]
  | d :: ps, h => by
    simp only [BxAs] at h
    have z := L_len d h.1
    have y := J2_len ps h.2
    simp only [J2, szs, List.length_append, List.length_cons, List.length_nil]
    omega
end
theorem shown_len {d : D} (h : BxA d) : (pd d).shown.length ≤ 20 * sz d := by
  have := L_len d h
  rw [cl_len]
  unfold L at this
  omega
end K9

set_option maxHeartbeats 4000000
namespace K9
open PySem PySem.Spec L2
/-! ### the head of a drawing -/
def hw : D → Str
  | .bx i _ => word i
  | .br b _ => kw b
def isB (b : Bool) : D → Bool
  | .br c _ => c == b
  | _ => false
def isBr : D → Bool
  | .br _ _ => true
  | _ => false
theorem Dr.at0 {K : PySem.W.Frag} {H : Hp} {d : D} {v : V} (h : Dr K H d v) : ∃ a xs, v = .ref a ∧ SqT K H a xs ∧ atI xs 0 = some (.str (hw d)) := by
  cases d with
  | bx i k =>
    simp only [Dr] at h
    obtain ⟨a, rfl, h⟩ := h
    exact ⟨a, _, rfl, h, bv_at0 i k⟩
  | br b ps =>
    simp only [Dr] at h
    obtain ⟨a, p, vs, rfl, h1, _, _⟩ := h
    exact ⟨a, _, rfl, h1, rfl⟩
theorem hw_eq {d : D} (h : BxA d) (b : Bool) : decide (V.str (hw d) = V.str (kw b)) = isB b d := by
  cases d with
  | bx i k =>
    simp only [BxA] at h
    exact (by decide +kernel : ∀ b, ∀ i, i < 14 → decide (V.str (word i) = V.str (kw b)) = false) b i h.1
  | br c ps => exact (by decide +kernel : ∀ b c, decide (V.str (kw c) = V.str (kw b)) = (c == b)) b c
theorem hw_in {d : D} (h : BxA d) : inV (.str (hw d)) [.str ("behind" : Str), .str ("beside" : Str)] = isBr d := by
  cases d with
  | bx i k =>
    simp only [BxA] at h
    exact (by decide +kernel : ∀ i, i < 14 → inV (.str (word i)) [.str ("behind" : Str), .str ("beside" : Str)] = false) i h.1
  | br c ps => exact kw_in c
theorem add_in {b : Bool} {d : D} (h : isB b d = true) : ∃ qs, d = .br b qs ∧ addD b d = qs := by
  cases d with
  | bx i k => simp [isB] at h
  | br c qs =>
    simp only [isB, beq_iff_eq] at h
    subst h
    exact ⟨qs, rfl, by simp [addD]⟩
theorem add_out {b : Bool} {d : D} (n : d = E0D ∨ Nf d) (h : isB b d = false) : addD b d = if isE d = true then [] else [d] := by
  cases d with
  | bx i k => simp [addD, isE]
  | br c qs =>
    simp only [isB, beq_eq_false_iff_ne] at h
    simp only [addD, if_neg h]
    cases qs with
    | nil =>
      cases c with
      | false => rfl
      | true =>
        rcases n with n | n
        · cases n
        · simp [Nf] at n
    | cons x r =>
      cases c <;> rfl
theorem fls_take (b : Bool) : ∀ {ps : List D} {i : Nat} {d : D}, ps[i]? = some d → fls b (ps.take (i + 1)) = fls b (ps.take i) ++ addD b (flat d)
  | [], _, _, h => by simp at h
  | x :: ps, 0, d, h => by
    have z : x = d := by simpa using h
    subst z
    simp [fls]
  | x :: ps, i + 1, d, h => by
    have z := fls_take b (ps := ps) (i := i) (by simpa using h)
    simp only [List.take_succ_cons, fls, z, List.append_assoc]
theorem szs_take (ps : List D) (i : Nat) : szs (ps.take i) ≤ szs ps := by
  induction ps generalizing i with
  | nil => simp [szs]
  | cons x ps ih =>
    cases i with
    | zero => simp [szs]
    | succ i =>
      have z := ih i
      simp only [List.take_succ_cons, szs]
      omega
theorem fls_short (b : Bool) (ps : List D) (i : Nat) : (fls b (ps.take i)).length ≤ szs ps :=
  Nat.le_trans (len_szs _) (Nat.le_trans (sz_fls b _) (szs_take ps i))
theorem bxa_app : ∀ {ps qs : List D}, BxAs ps → BxAs qs → BxAs (ps ++ qs)
  | [], _, _, h => h
  | x :: ps, _, h, h' => by
    simp only [BxAs] at h
    simp only [List.cons_append, BxAs]
    exact ⟨h.1, bxa_app h.2 h'⟩
theorem bxa_fin {b : Bool} {ps : List D} (h : BxAs ps) : BxA (fin b ps) := by
  match ps, h with
  | [], _ => simp [fin, BxA, BxAs]
  | [d], h =>
    simp only [BxAs] at h
    exact h.1
  | d :: e :: r, h => simpa only [fin, BxA] using h
theorem bxa_add {b : Bool} {d : D} (h : BxA d) : BxAs (addD b d) := by
  cases d with
  | bx i k => simpa [addD, BxAs] using h
  | br c qs =>
    simp only [BxA] at h
    simp only [addD]
    split
    · exact h
    · split
      · trivial
      · simpa [BxAs, BxA] using h
mutual
theorem bxa_flat : ∀ {d : D}, BxA d → BxA (flat d)
  | .bx i k, h => by simpa only [flat] using h
  | .br b ps, h => by
    simp only [BxA] at h
    simp only [flat]
    exact bxa_fin (bxa_fls b h)
theorem bxa_fls (b : Bool) : ∀ {ps : List D}, BxAs ps → BxAs (fls b ps)
  | [], _ => by simp [fls, BxAs]
  | d :: ps, h => by
    simp only [BxAs] at h
    simp only [fls]
    exact bxa_app (bxa_add (bxa_flat h.1)) (bxa_fls b h.2)
end
theorem bxa_E0 : BxA E0D := by simp only [BxA, BxAs]
theorem sh_E0 : SeqAt.shaped (pd E0D) = true := sh_pd bxa_E0 (by simp only [dep, deps]; omega)
/-- the drawing without the brackets that are not needed -/
def spFlat (K : PySem.W.Frag) (n : Nat) : Sp := fun vs H Q _ => ∃ (v : V) (d : D), vs = [v] ∧ Dr K H d v ∧ BxA d ∧ sz d ≤ 5000 ∧ dep d ≤ 30 ∧ dep d + 1 ≤ n ∧ ∀ v' H', Same H H' → Dr K H' (flat d) v' → Q v' H'
abbrev s_flattened : Stmt := top 20
abbrev N_flattened : List Str := ["drawing", "word", "parts", "found", "part", "own"]
theorem sc_flattened : FnScope N_flattened ["drawing"] (C8.fnScope s_flattened) := C8.fnScope_by (by decide +kernel)
theorem ok_flattened {P : Program} {w : World} {K : PySem.W.Frag} {mg : Str → Option Value} {base : Heap} (T : Tp0 w K mg) (F : D0 K mg "flattened" s_flattened ["drawing"])
    (c_is_small : C8.Cal P w K mg base 1 "is_small" (spSmall K) []) : ∀ n, C8.Cal P w K mg base (n + 2) "flattened" (spFlat K n) []
  | 0 => F.vac fun vs H Q E h => by
    obtain ⟨_, _, _, _, _, _, _, h, _⟩ := h
    omega
  | n + 1 => by
    have c_flattened := ok_flattened T F c_is_small n
    refine F.ok sc_flattened (fun vs H Q E h => ?_) (fun f cdv A outer s H vs Q E hr h => ?_)
    · obtain ⟨_, _, rfl, _⟩ := h
      rfl
    obtain ⟨v, d, rfl, hD, hB, hz, h30, hn, q⟩ := h
    refine ⟨_, (pss_cons (ps_if (pt_val (C8.pe_c c_is_small hr (by omega) rfl (pa_cons (pv 0) pa_nil)))
      (pss_one (ps_ret (pv 0)))
      pss_nil)
    (pss_cons (ps_asg (pv 0) (pg_tup rfl (pgs_cons (pg_name (i := 1) sc_flattened.nd rfl (Or.inl rfl)) (pgs_cons (pg_name (i := 2) sc_flattened.nd rfl (Or.inl rfl)) pgs_nil))))
    (pss_cons (ps_set (i := 3) sc_flattened.nd rfl (Or.inl rfl) (pe_lst pa_nil))
    (pss_cons (ps_for PassesOwn.never rfl (pi_tup (pv 2)) (pg_name (i := 4) sc_flattened.nd rfl (Or.inl rfl))
      (pss_cons (ps_set (i := 5) sc_flattened.nd rfl (Or.inl rfl) (C8.pe_c c_flattened hr (by omega) rfl (pa_cons (pv 4) pa_nil)))
        (pss_one (ps_if (pt_cmpR op_eq (pe_ix (r := rIxT K) ix_tup (pv 5) pe_int (fun _ _ => rfl)) (pv 1) (nomark _))
          (pss_one (ps_expr (pe_bm PySem.F.plainAttrs_list PySem.F.slot_list_extend PySem.F.type_list_extend mt_extT (pv 3) (pa_cons (pe_ix (r := rIxT K) ix_tup (pv 5) pe_int (fun _ _ => rfl)) pa_nil))))
          (pss_one (ps_if (pt_cmpR (op_neD hr.units) (pv 5) (C8.pe_gc rfl T.EMPTY) (nomark _))
              (pss_one (ps_expr (pe_bm PySem.F.plainAttrs_list PySem.F.slot_list_append PySem.F.type_list_append mt_append (pv 3) (pa_cons (pv 5) pa_nil))))
              pss_nil))))))
    (pss_cons (ps_if (pt_cmpR op_eq (pe_callB call_len_seq rfl T.len bo_len (pa_cons (pv 3) pa_nil)) pe_int (nomark _))
      (pss_one (ps_ret (C8.pe_gc rfl T.EMPTY)))
      pss_nil)
    (pss_one (ps_ret (pe_ifExp (pt_cmpR op_eq (pe_callB call_len_seq rfl T.len bo_len (pa_cons (pv 3) pa_nil)) pe_int (nomark _)) (pe_ix (r := rIxL K) ix_list (pv 3) pe_int (fun _ _ => rfl)) (pe_tup (pa_cons (pv 1) (pa_cons (pe_callTy call_tuple_of rfl T.tuple bo_tuple (pa_cons (pv 3) pa_nil)) pa_nil))))))))))), ?_⟩
    refine ⟨_, rfl, v, d, rfl, hD, hB, fun H1 s1 => ⟨_, rfl, ?_⟩⟩
    cases d with
    | bx i k => exact iteT ⟨_, rfl, q v H1 s1 (s1.dr hD)⟩
    | br b ps =>
      have hD1 := s1.dr hD
      simp only [Dr] at hD1
      obtain ⟨a, p, vs, rfl, h1, h2, h3⟩ := hD1
      have hlen := h3.len
      simp only [BxA] at hB
      simp only [sz] at hz
      simp only [dep] at hn h30
      refine iteF ⟨_, rfl, a, _, rfl, h1, rfl, _, _, rfl, _, _, rfl, rfl, ?_⟩
      refine ⟨Nat.zero_le _, fun o ho => ?_⟩
      have s2 : Same H1 (upd H1 o (.lst [])) := same_new ho
      refine ⟨_, rfl, _, rfl, ⟨_, s2.tup h2⟩, ?_⟩
      refine for_tup (xs := vs) (fun i σ H' => ∃ y4 y5 xs, σ = [some (.ref a), some (.str (kw b)), some (.ref p), some (.ref o), y4, y5] ∧ Same H1 H' ∧ H' o = some (.lst xs) ∧ Drs K H' (fls b (ps.take i)) xs) ⟨_, _, [], rfl, s2, upd_same, by simp [fls, Drs]⟩ (fun i σ H' hi hP => ?_) (fun i x σ H' ex hP => ?_) (fun σ H' hP => ?_)
      · obtain ⟨y4, y5, xs, rfl, e, _⟩ := hP
        exact e.tup h2
      · obtain ⟨y4, y5, xs, rfl, e, eo, hx⟩ := hP
        obtain ⟨d', ed, hd'⟩ := h3.get ex
        have k1 := dep_kid ed
        have k2 := sz_kid ed
        have k3 := fls_take b ed
        have k4 := fls_short b ps i
        have k5 := fls_short b ps (i + 1)
        have k6 := hx.len
        refine ⟨_, rfl, x, d', rfl, e.dr hd', bxa_kid hB ed, by omega, by omega, by omega, fun v' H2 s3 hv' => ?_⟩
        have nf := flat_nf d'
        have bx := bxa_flat (bxa_kid hB ed)
        have dp := dep_flat d'
        rw [k3] at k5
        rw [List.length_append] at k5
        obtain ⟨a', xs', rfl, t1, t2⟩ := hv'.at0
        refine ⟨_, rfl, _, _, _, _, rfl, rfl, t1, t2, _, rfl, rfl, _, rfl, ?_⟩
        rw [hw_eq bx]
        cases hb : isB b (flat d') with
        | true =>
          obtain ⟨qs, eq, ea⟩ := add_in hb
          rw [eq] at hv'
          simp only [Dr] at hv'
          obtain ⟨a2, p2, zs, ez, g1, g2, g3⟩ := hv'
          cases ez
          have g4 := g3.len
          rw [ea] at k3 k5
          refine iteT ⟨_, rfl, .inl ⟨rfl, _, SqL.of (s3 _ _ eo)⟩, _, rfl, _, _, _, _, rfl, rfl, g1, rfl, ?_⟩
          have z1 : xs.length + zs.length ≤ 100000 := by omega
          refine ⟨o, p2, xs, zs, rfl, rfl, s3 _ _ eo, g2, Nat.le_trans z1 (by decide), ?_⟩
          have kk : Kp H2 (upd H2 o (.lst (xs ++ zs))) := kp_lst (s3 _ _ eo)
          refine ⟨_, _, _, rfl, (e.trans s3).mut ho, upd_same, ?_⟩
          rw [k3]
          exact ((s3.kp.trans kk).drs hx).app (kk.drs g3)
        | false =>
          refine iteF ⟨_, rfl, pd (flat d'), pd E0D, hv'.dp, T.drE.dp, sh_pd bx (by omega), sh_E0, _, rfl, ?_⟩
          rw [eqv_E0 bx]
          have ea := add_out nf hb
          cases he : isE (flat d') with
          | true =>
            rw [he] at ea
            refine iteF ⟨_, _, xs, rfl, e.trans s3, s3 _ _ eo, ?_⟩
            rw [k3, ea]
            simpa using s3.drs hx
          | false =>
            rw [he] at ea
            refine iteT ⟨_, rfl, .inl ⟨rfl, _, SqL.of (s3 _ _ eo)⟩, _, rfl, ?_⟩
            refine ⟨o, xs, _, rfl, rfl, s3 _ _ eo, lt_size (by omega), ?_⟩
            have kk : Kp H2 (upd H2 o (.lst (xs ++ [.ref a']))) := kp_lst (s3 _ _ eo)
            refine ⟨_, _, _, rfl, (e.trans s3).mut ho, upd_same, ?_⟩
            rw [k3, ea]
            exact ((s3.kp.trans kk).drs hx).app (Drs.one (kk.dr hv'))
      · obtain ⟨y4, y5, xs, rfl, e, eo, hx⟩ := hP
        rw [List.take_of_length_le (by omega)] at hx
        have hxl := hx.len
        refine ⟨_, rfl, _, _, rfl, .inl (SqL.of eo), rfl, _, rfl, ?_⟩
        simp only [flat] at q
        match hf : fls b ps, hx, hxl with
        | [], hx, hxl =>
          rw [hf] at q
          simp only [List.length_nil, List.length_eq_zero_iff] at hxl
          subst hxl
          exact iteT (q _ _ (s1.trans e) T.drE)
        | [d0], hx, hxl =>
          rw [hf] at q
          simp only [Drs] at hx
          obtain ⟨v0, r, rfl, g1, rfl⟩ := hx
          refine iteF ⟨_, rfl, _, _, rfl, .inl (SqL.of eo), rfl, _, rfl, iteT ?_⟩
          exact ⟨_, rfl, _, _, _, _, rfl, rfl, SqL.of eo, rfl, q _ _ (s1.trans e) g1⟩
        | d0 :: d1 :: r0, hx, hxl =>
          rw [hf] at q
          simp only [List.length_cons] at hxl
          rw [decide_eq_false (by simp only [V.int.injEq]; omega)]
          refine iteF ⟨_, rfl, _, _, rfl, .inl (SqL.of eo), rfl, _, rfl, ?_⟩
          rw [decide_eq_false (by simp only [V.int.injEq]; omega)]
          refine iteF ⟨_, rfl, _, rfl, _, _, rfl, .inl ⟨SqL.of eo, fun l hl => ?_⟩⟩
          refine ⟨by show 2 ≤ sizeLine; decide, fun t ht => ?_⟩
          have s4 : Same H' (upd H' l (.tup xs)) := same_new hl
          have s5 := same_new (o := .tup [.str (kw b), .ref l]) ht
          refine q _ _ (s1.trans (e.trans (s4.trans s5))) ?_
          simp only [fin, Dr]
          exact ⟨_, l, xs, rfl, SqT.of upd_same, s5.tup (SqT.of upd_same), (s4.trans s5).drs hx⟩
end K9

set_option maxHeartbeats 4000000
namespace K9
open PySem PySem.Spec L2
theorem _root_.L2.Same.none {H H' : Hp} {p : Addr} (e : Same H H') (h : H' p = none) : H p = none := by
  cases c : H p with
  | none => rfl
  | some o =>
    rw [e _ _ c] at h
    cases h
theorem dp_empty {K : PySem.W.Frag} {H : Hp} {t p : Addr} (h : SqT K H t [.str ("beside" : Str), .ref p]) (h' : SqT K H p []) : Dp K H (.ref t) (pd E0D) := by
  simp only [pd, pds]
  exact .tup h (.cons (.str _) (.cons (.tup h' .nil) .nil))
theorem dr_empty {K : PySem.W.Frag} {H : Hp} {t p : Addr} (h : SqT K H t [.str ("beside" : Str), .ref p]) (h' : SqT K H p []) : Dr K H E0D (.ref t) := by
  simp only [Dr, Drs]
  exact ⟨t, p, [], rfl, h, h', rfl⟩
theorem hw_inN {d : D} (h : BxA d) : (!inV (.str (hw d)) [.str ("behind" : Str), .str ("beside" : Str)]) = !isBr d := by rw [hw_in h]
theorem dps_list {K : PySem.W.Frag} {H : Hp} {ps : List D} {xs : List V} {o : Addr} (h : Drs K H ps xs) (ho : H o = some (.lst xs)) : Dp K H (.ref o) (.list (pds ps)) := .lst (SqL.of ho) h.dp
theorem sh_list {ps : List D} (h : BxAs ps) (hd : deps ps ≤ 30) : SeqAt.shaped (.list (pds ps)) = true := by
  obtain ⟨h1, h2, _, _⟩ := lay_pds h
  have z : (PyData.list (pds ps)).depth ≤ 64 := by
    simp only [PyData.depth]
    omega
  simp only [SeqAt.shaped, PyData.canLay0, h1, Bool.true_and, decide_eq_true_eq]
  exact z
theorem eqv_nil (ps : List D) : PyData.eqv (.list (pds ps)) (.list []) = ps.isEmpty := by
  cases ps <;> simp [pds, PyData.eqv, PyData.eqvAll]
abbrev s_law_bare : Stmt := top 47
abbrev N_law_bare : List Str := ["_law_sketch", "_law_found", "_law_part", "_law_fresh"]
theorem sc_law_bare : FnScope N_law_bare ["_law_sketch"] (C8.fnScope s_law_bare) := C8.fnScope_by (by decide +kernel)
theorem ok_law_bare {P : Program} {w : World} {K : PySem.W.Frag} {mg : Str → Option Value} {base : Heap} (T : Tp0 w K mg) (F : D0 K mg "_law_bare" s_law_bare ["_law_sketch"]) : ∀ n, C8.Cal P w K mg base (n + 2) "_law_bare" (spFlat K n) []
  | 0 => F.vac fun vs H Q E h => by
    obtain ⟨_, _, _, _, _, _, _, h, _⟩ := h
    omega
  | n + 1 => by
    have c_law_bare : C8.Cal P w K mg base (n + 2) "_law_bare" (spFlat K n) [] := ok_law_bare T F n
    refine F.ok sc_law_bare (fun vs H Q E h => ?_) (fun f cdv A outer s H vs Q E hr h => ?_)
    · obtain ⟨_, _, rfl, _⟩ := h
      rfl
    obtain ⟨v, d, rfl, hD, hB, hz, h30, hn, q⟩ := h
    refine ⟨_, (pss_cons (ps_if (pt_cmpR op_notIn_seq (pe_ix (r := rIxT K) ix_tup (pv 0) pe_int (fun _ _ => rfl)) (pe_tup (pa_cons pe_str (pa_cons pe_str pa_nil))) (by rfl))
      (pss_one (ps_ret (pv 0)))
      pss_nil)
    (pss_cons (ps_set (i := 1) sc_law_bare.nd rfl (Or.inl rfl) (pe_lst pa_nil))
    (pss_cons (ps_for PassesOwn.never rfl (pi_tup (pe_ix (r := rIxT K) ix_tup (pv 0) pe_int (fun _ _ => rfl))) (pg_name (i := 2) sc_law_bare.nd rfl (Or.inl rfl))
      (pss_cons (ps_set (i := 3) sc_law_bare.nd rfl (Or.inl rfl) (C8.pe_c c_law_bare hr (by omega) rfl (pa_cons (pv 2) pa_nil)))
        (pss_one (ps_if (pt_cmpR op_eq (pe_ix (r := rIxT K) ix_tup (pv 3) pe_int (fun _ _ => rfl)) (pe_ix (r := rIxT K) ix_tup (pv 0) pe_int (fun _ _ => rfl)) (nomark _))
          (pss_one (ps_set (i := 1) sc_law_bare.nd rfl (Or.inl rfl) (pe_op op_cat (pv 1) (pe_callTy call_list_of rfl T.list bo_list (pa_cons (pe_ix (r := rIxT K) ix_tup (pv 3) pe_int (fun _ _ => rfl)) pa_nil)))))
          (pss_one (ps_if (pt_cmpR (op_neD hr.units) (pv 3) (pe_tup (pa_cons pe_str (pa_cons (pe_tup pa_nil) pa_nil))) (nomark _))
              (pss_one (ps_expr (pe_bm PySem.F.plainAttrs_list PySem.F.slot_list_append PySem.F.type_list_append mt_append (pv 1) (pa_cons (pv 3) pa_nil))))
              pss_nil))))))
    (pss_cons (ps_if (pt_cmpR op_eq (pe_callB call_len_seq rfl T.len bo_len (pa_cons (pv 1) pa_nil)) pe_int (nomark _))
      (pss_one (ps_ret (pe_ix (r := rIxL K) ix_list (pv 1) pe_int (fun _ _ => rfl))))
      pss_nil)
    (pss_one (ps_ret (pe_ifExp (pt_cmpR (op_neD hr.units) (pv 1) (pe_lst pa_nil) (nomark _)) (pe_tup (pa_cons (pe_ix (r := rIxT K) ix_tup (pv 0) pe_int (fun _ _ => rfl)) (pa_cons (pe_callTy call_tuple_of rfl T.tuple bo_tuple (pa_cons (pv 1) pa_nil)) pa_nil))) (pe_tup (pa_cons pe_str (pa_cons (pe_tup pa_nil) pa_nil)))))))))), ?_⟩
    obtain ⟨a0, xs0, rfl, t1, t2⟩ := hD.at0
    refine ⟨_, rfl, _, _, _, _, rfl, rfl, t1, t2, (by show 2 ≤ sizeLine; decide), fun t ht => ?_⟩
    have s1 : Same H (upd H t (.tup [.str "behind", .str "beside"])) := same_new ht
    refine ⟨t, _, rfl, .inr (SqT.of upd_same), rfl, rfl, _, rfl, ?_⟩
    rw [if_pos rfl, show (!inV (V.str (hw d)) [V.str "behind", V.str "beside"]) = !isBr d from hw_inN hB]
    generalize upd H t (.tup [.str "behind", .str "beside"]) = H1 at s1
    cases d with
    | bx i k => exact iteT ⟨_, rfl, q _ H1 s1 (s1.dr hD)⟩
    | br b ps =>
      have hD1 := s1.dr hD
      simp only [Dr] at hD1
      obtain ⟨a, p, vs, ea0, h1, h2, h3⟩ := hD1
      cases ea0
      have hlen := h3.len
      simp only [BxA] at hB
      simp only [sz] at hz
      simp only [dep] at hn h30
      refine iteF ⟨Nat.zero_le _, fun o ho => ?_⟩
      have s2 : Same H1 (upd H1 o (.lst [])) := same_new ho
      refine ⟨_, rfl, _, _, _, _, rfl, rfl, s2.tup h1, rfl, _, rfl, ⟨_, s2.tup h2⟩, ?_⟩
      refine for_tup (xs := vs) (fun i σ H' => ∃ o y2 y3 xs, σ = [some (.ref a0), some (.ref o), y2, y3] ∧ Same H1 H' ∧ H1 o = none ∧ H' o = some (.lst xs) ∧ Drs K H' (fls b (ps.take i)) xs) ⟨_, _, _, [], rfl, s2, ho, upd_same, by simp [fls, Drs]⟩ (fun i σ H' hi hP => ?_) (fun i x σ H' ex hP => ?_) (fun σ H' hP => ?_)
      · obtain ⟨o, y2, y3, xs, rfl, e, _⟩ := hP
        exact e.tup h2
      · obtain ⟨o, y2, y3, xs, rfl, e, hno, eo, hx⟩ := hP
        obtain ⟨d', ed, hd'⟩ := h3.get ex
        have k1 := dep_kid ed
        have k2 := sz_kid ed
        have k3 := fls_take b ed
        have k4 := fls_short b ps i
        have k5 := fls_short b ps (i + 1)
        have k6 := hx.len
        refine ⟨_, rfl, x, d', rfl, e.dr hd', bxa_kid hB ed, by omega, by omega, by omega, fun v' H2 s3 hv' => ?_⟩
        have nf := flat_nf d'
        have bx := bxa_flat (bxa_kid hB ed)
        have dp := dep_flat d'
        rw [k3] at k5
        rw [List.length_append] at k5
        obtain ⟨a', xs', rfl, t1, t2⟩ := hv'.at0
        have e3 := e.trans s3
        refine ⟨_, rfl, _, _, _, _, rfl, rfl, t1, t2, _, rfl, _, _, _, _, rfl, rfl, e3.tup h1, rfl, rfl, _, rfl, ?_⟩
        rw [hw_eq bx]
        cases hb : isB b (flat d') with
        | true =>
          obtain ⟨qs, eq, ea⟩ := add_in hb
          rw [eq] at hv'
          simp only [Dr] at hv'
          obtain ⟨a2, p2, zs, ez, g1, g2, g3⟩ := hv'
          cases ez
          have g4 := g3.len
          rw [ea] at k3 k5
          refine iteT ⟨_, rfl, _, rfl, _, _, _, _, rfl, rfl, g1, rfl, _, _, rfl, .inr g2, fun l hl => ?_⟩
          have z1 : xs.length + zs.length ≤ 100000 := by omega
          have s4 : Same H2 (upd H2 l (.lst zs)) := same_new hl
          refine ⟨o, l, xs, zs, rfl, rfl, s4 _ _ (s3 _ _ eo), upd_same, Nat.le_trans z1 (by decide), fun r hr => ?_⟩
          have s5 := same_new (o := .lst (xs ++ zs)) hr
          have s345 := s3.trans (s4.trans s5)
          refine ⟨_, _, _, _, rfl, e.trans s345, (e.trans (s3.trans s4)).none hr, upd_same, ?_⟩
          rw [k3]
          exact (s345.drs hx).app ((s4.trans s5).drs g3)
        | false =>
          refine iteF ⟨_, rfl, Nat.zero_le _, fun t3 ht3 => ⟨by show 2 ≤ sizeLine; decide, fun t4 ht4 => ?_⟩⟩
          have s4 : Same H2 (upd H2 t3 (.tup [])) := same_new ht3
          have s5 := same_new (o := .tup [.str ("beside" : Str), .ref t3]) ht4
          have s45 := s4.trans s5
          refine ⟨pd (flat d'), pd E0D, (s45.dr hv').dp, dp_empty (SqT.of upd_same) (s5.tup (SqT.of upd_same)), sh_pd bx (by omega), sh_E0, _, rfl, ?_⟩
          rw [eqv_E0 bx]
          have ea := add_out nf hb
          generalize upd (upd H2 t3 (.tup [])) t4 (.tup [.str ("beside" : Str), .ref t3]) = H3 at s5 s45
          cases he : isE (flat d') with
          | true =>
            rw [he] at ea
            refine iteF ⟨_, _, _, xs, rfl, e3.trans s45, hno, s45 _ _ (s3 _ _ eo), ?_⟩
            rw [k3, ea]
            simpa using (s3.trans s45).drs hx
          | false =>
            rw [he] at ea
            refine iteT ⟨_, rfl, .inl ⟨rfl, _, SqL.of (s45 _ _ (s3 _ _ eo))⟩, _, rfl, ?_⟩
            refine ⟨o, xs, _, rfl, rfl, s45 _ _ (s3 _ _ eo), lt_size (by omega), ?_⟩
            have kk : Kp H3 (upd H3 o (.lst (xs ++ [.ref a']))) := kp_lst (s45 _ _ (s3 _ _ eo))
            refine ⟨_, _, _, _, rfl, (e3.trans s45).mut hno, hno, upd_same, ?_⟩
            rw [k3, ea]
            exact (((s3.trans s45).kp.trans kk).drs hx).app (Drs.one (kk.dr (s45.dr hv')))
      · obtain ⟨o, y2, y3, xs, rfl, e, hno, eo, hx⟩ := hP
        rw [List.take_of_length_le (by omega)] at hx
        have hxl := hx.len
        have hfb := bxa_fls b hB
        have hfd : deps (fls b ps) ≤ 30 := Nat.le_trans (dep_fls b ps) h30
        refine ⟨_, rfl, _, _, rfl, .inl (SqL.of eo), rfl, _, rfl, ?_⟩
        simp only [flat] at q
        generalize fls b ps = fs at q hx hxl hfb hfd
        -- more than one, or none
        have rest : fs.length ≠ 1 → tRet (tIf (tTest (tOp (rNeD K) (tVar 1) (tLst tNil))) (tTup (tCons (tOp (rIxT K) (tVar 0) (tC (.int 0))) (tCons (tCB (fun xs H_1 Q => ∃ p ys, xs = [V.ref p] ∧ ((SqL K H_1 p ys ∧ ∀ (l : Addr), H_1 l = none → Q (V.ref l) (upd H_1 l (HO.tup ys))) ∨ SqT K H_1 p ys ∧ Q (V.ref p) H_1)) (tCons (tVar 1) tNil)) tNil))) (tTup (tCons (tC (.str "beside")) (tCons (tTup tNil) tNil))))
            { nx := fun _ H' => Q .non H', rt := Q } [some (.ref a0), some (.ref o), y2, y3] H' := by
          intro n1
          refine ⟨_, rfl, Nat.zero_le _, fun l hl => ?_⟩
          have s4 : Same H' (upd H' l (.lst [])) := same_new hl
          refine ⟨.list (pds fs), .list [], dps_list (s4.drs hx) (s4 _ _ eo), .lst (SqL.of upd_same) .nil, sh_list hfb hfd, by decide, _, rfl, ?_⟩
          rw [eqv_nil]
          match fs, hx, hxl, n1, q with
          | [], hx, hxl, n1, q =>
            refine iteF ⟨Nat.zero_le _, fun t3 ht3 => ⟨by show 2 ≤ sizeLine; decide, fun t4 ht4 => ?_⟩⟩
            have s5 := same_new (o := .tup []) ht3
            have s6 := same_new (o := .tup [.str ("beside" : Str), .ref t3]) ht4
            exact q _ _ (s1.trans (e.trans (s4.trans (s5.trans s6)))) (dr_empty (SqT.of upd_same) (s6.tup (SqT.of upd_same)))
          | [d0], hx, hxl, n1, q => exact absurd rfl n1
          | d0 :: d1 :: r0, hx, hxl, n1, q =>
            refine iteT ⟨_, rfl, _, _, _, _, rfl, rfl, s4.tup (e.tup h1), rfl, _, rfl, _, _, rfl, .inl ⟨SqL.of (s4 _ _ eo), fun l2 hl2 => ⟨by show 2 ≤ sizeLine; decide, fun t ht => ?_⟩⟩⟩
            have s5 := same_new (o := .tup xs) hl2
            have s6 := same_new (o := .tup [.str (kw b), .ref l2]) ht
            refine q _ _ (s1.trans (e.trans (s4.trans (s5.trans s6)))) ?_
            simp only [fin, Dr]
            exact ⟨_, l2, xs, rfl, SqT.of upd_same, s6.tup (SqT.of upd_same), (s4.trans (s5.trans s6)).drs hx⟩
        by_cases n1 : fs.length = 1
        · match fs, hx, hxl, n1, q with
          | [d0], hx, hxl, n1, q =>
            simp only [Drs] at hx
            obtain ⟨v0, r, rfl, g1, rfl⟩ := hx
            exact iteT ⟨_, rfl, _, _, _, _, rfl, rfl, SqL.of eo, rfl, q _ _ (s1.trans e) g1⟩
        · rw [decide_eq_false (by simp only [V.int.injEq]; omega)]
          exact iteF (rest n1)
abbrev s_box_text : Stmt := top 24
abbrev N_box_text : List Str := ["box"]
theorem sc_box_text : FnScope N_box_text ["box"] (C8.fnScope s_box_text) := C8.fnScope_by (by decide +kernel)
theorem bt1 : ∀ i, i < 14 → isnum i = false → word i = S (btxt i 0) := by decide +kernel
theorem bt2 : ∀ i : Nat, i < 14 → ∀ k : Nat, k < 7 → isnum i = true → Str.empty ++ word i ++ (" " : String) ++ ((toString (k : Int) : String) : Str) = S (btxt i k) := by decide +kernel
theorem bt3 : ∀ i : Nat, i < 14 → ∀ k : Nat, k < 7 → (word i).length ≤ 100 ∧ (Str.empty ++ word i).length ≤ 100 ∧ (Str.empty ++ word i ++ ((" " : String) : Str)).length ≤ 100 ∧ (Str.empty ++ word i ++ (" " : String) ++ ((toString (k : Int) : String) : Str)).length ≤ 100 := by decide +kernel
theorem le_size {n : Nat} (h : n ≤ 1000000) : n ≤ sizeLine := Nat.le_trans h (by decide)
/-- the text of a small box -/
def spBText (K : PySem.W.Frag) : Sp := fun vs H Q _ => ∃ (v : V) (i k : Nat), vs = [v] ∧ Dr K H (.bx i k) v ∧ BxOk i k ∧ Q (.str (S (btxt i k))) H
theorem ok_box_text {P : Program} {w : World} {K : PySem.W.Frag} {mg : Str → Option Value} {base : Heap} (T : Tp0 w K mg) (F : D0 K mg "box_text" s_box_text ["box"]) : C8.Cal P w K mg base 1 "box_text" (spBText K) [] := by
  refine F.ok sc_box_text (fun vs H Q E h => ?_) (fun f cdv A outer s H vs Q E hr h => ?_)
  · obtain ⟨_, _, _, rfl, _⟩ := h
    rfl
  obtain ⟨v, i, k, rfl, hD, hB, q⟩ := h
  refine ⟨_, (pss_one (ps_ret (pe_ifExp (pt_cmpR op_eq (pe_callB call_len_seq rfl T.len bo_len (pa_cons (pv 0) pa_nil)) pe_int (nomark _)) (pe_ix (r := rIxT K) ix_tup (pv 0) pe_int (fun _ _ => rfl)) (pe_joined (.cons (pe_fmt (pe_ix (r := rIxT K) ix_tup (pv 0) pe_int (fun _ _ => rfl))) (.cons pe_str (.cons (pe_fmt (pe_ix (r := rIxT K) ix_tup (pv 0) pe_int (fun _ _ => rfl))) .nil))))))), ?_⟩
  simp only [Dr] at hD
  obtain ⟨a, rfl, h1⟩ := hD
  obtain ⟨b1, b2, b3⟩ := hB
  have h0 := bv_at0 i k
  refine ⟨_, rfl, _, _, rfl, .inr h1, rfl, _, rfl, ?_⟩
  unfold bv at h1 h0 ⊢
  cases hn : isnum i with
  | false =>
    rw [hn] at h1 h0
    have := b3 hn
    subst this
    rw [bt1 i b1 hn] at h1 h0
    exact iteT ⟨_, rfl, _, _, _, _, rfl, rfl, h1, h0, q⟩
  | true =>
    rw [hn] at h1 h0
    obtain ⟨z1, z2, z3, z4⟩ := bt3 i b1 k (by omega)
    have e := bt2 i b1 k (by omega) hn
    have hk : ((k : Int)).natAbs.log2 < 1920 := by
      rw [Int.natAbs_natCast]
      have := Nat.log2_le_self k
      omega
    refine iteF ⟨_, rfl, _, _, _, _, rfl, rfl, h1, rfl, .inl ⟨_, rfl, le_size (by omega), _, rfl, le_size (by omega), _, rfl, le_size (by omega), _, rfl, _, _, _, _, rfl, rfl, h1, rfl, .inr ⟨_, rfl, hk, _, rfl, le_size (by omega), ?_⟩⟩⟩
    rw [← e] at q
    exact q
abbrev s_flat_text : Stmt := top 25
abbrev N_flat_text : List Str := ["drawing", "texts", "own"]
theorem sc_flat_text : FnScope N_flat_text ["drawing"] (C8.fnScope s_flat_text) := C8.fnScope_by (by decide +kernel)
theorem join_S (s : List Nat) : ∀ l : List (List Nat), Str.join (S s) (l.map S) = S (joinL s l)
  | [] => rfl
  | [x] => rfl
  | x :: y :: r => by
    have ih := join_S s (y :: r)
    show S x ++ S s ++ Str.join (S s) ((y :: r).map S) = _
    rw [ih, S_app, S_app]
    rfl
theorem gl_join (s : Str) (l : List Str) : Txt.join s l = Str.join s l := by
  first
  | exact glued_eq_join s l
  | exact StrLaws.glued_eq_join s l
theorem bxa_take : ∀ (ps : List D) (i : Nat), BxAs ps → BxAs (ps.take i)
  | [], _, _ => by simp [BxAs]
  | x :: ps, 0, _ => by simp [BxAs]
  | x :: ps, i + 1, h => by
    simp only [BxAs] at h
    simp only [List.take_succ_cons, BxAs]
    exact ⟨h.1, bxa_take ps i h.2⟩
theorem sum_len : ∀ l : List (List Nat), ((l.map S).map (·.length)).sum = (l.map List.length).sum
  | [] => rfl
  | x :: r => by
    have ih := sum_len r
    simp only [List.map_cons, List.sum_cons, ih, S_len]
theorem ptx_sum : ∀ ps : List D, BxAs ps → ((ptxts ps).map List.length).sum + 3 * ps.length ≤ 14 * szs ps ∧ (ptxts ps).length = ps.length
  | [], _ => by simp [ptxts]
  | d :: ps, h => by
    simp only [BxAs] at h
    obtain ⟨h1, h2⟩ := ptx_sum ps h.2
    have h3 := ptx_len d h.1
    rw [ptxts_cons]
    simp only [List.map_cons, List.sum_cons, List.length_cons, szs]
    omega
theorem nfs_kid {b : Bool} {ps : List D} {i : Nat} {d : D} (hl : Nfs b ps) (h : ps[i]? = some d) : Nf d := by
  induction ps generalizing i with
  | nil => simp at h
  | cons x ps ih =>
    simp only [Nfs] at hl
    cases i with
    | zero =>
      have z : x = d := by simpa using h
      subst z
      exact hl.1
    | succ i => exact ih hl.2.2 (i := i) (by simpa using h)
theorem ptxts_take : ∀ {ps : List D} {i : Nat} {d : D}, ps[i]? = some d → ptxts (ps.take (i + 1)) = ptxts (ps.take i) ++ [ptx d]
  | [], _, _, h => by simp at h
  | x :: ps, 0, d, h => by
    have z : x = d := by simpa using h
    subst z
    simp [ptxts_cons, ptxts]
  | x :: ps, i + 1, d, h => by
    have z := ptxts_take (ps := ps) (i := i) (by simpa using h)
    simp only [List.take_succ_cons, ptxts_cons, z, List.cons_append]
/-- the text of a normal drawing -/
def spText (K : PySem.W.Frag) (n : Nat) : Sp := fun vs H Q _ => ∃ (v : V) (d : D), vs = [v] ∧ Dr K H d v ∧ NfE d ∧ BxA d ∧ sz d ≤ 5000 ∧ dep d ≤ 30 ∧ dep d + 1 ≤ n ∧ ∀ H', Same H H' → Q (.str (S (txt d))) H'
theorem ok_flat_text {P : Program} {w : World} {K : PySem.W.Frag} {mg : Str → Option Value} {base : Heap} (T : Tp0 w K mg) (F : D0 K mg "flat_text" s_flat_text ["drawing"])
    (c_is_small : C8.Cal P w K mg base 1 "is_small" (spSmall K) []) (c_box_text : C8.Cal P w K mg base 1 "box_text" (spBText K) []) : ∀ n, C8.Cal P w K mg base (n + 2) "flat_text" (spText K n) []
  | 0 => F.vac fun vs H Q E h => by
    obtain ⟨_, _, _, _, _, _, _, _, h, _⟩ := h
    omega
  | n + 1 => by
    have c_flat_text := ok_flat_text T F c_is_small c_box_text n
    refine F.ok sc_flat_text (fun vs H Q E h => ?_) (fun f cdv A outer s H vs Q E hr h => ?_)
    · obtain ⟨_, _, rfl, _⟩ := h
      rfl
    obtain ⟨v, d, rfl, hD, hN, hB, hz, h30, hn, q⟩ := h
    refine ⟨_, (pss_cons (ps_if (pt_val (C8.pe_c c_is_small hr (by omega) rfl (pa_cons (pv 0) pa_nil)))
      (pss_one (ps_ret (C8.pe_c c_box_text hr (by omega) rfl (pa_cons (pv 0) pa_nil))))
      pss_nil)
    (pss_cons (ps_if (pt_cmpR (op_eqD hr.units) (pv 0) (C8.pe_gc rfl T.EMPTY) (nomark _))
      (pss_one (ps_ret pe_str))
      pss_nil)
    (pss_cons (ps_set (i := 1) sc_flat_text.nd rfl (Or.inl rfl) (pe_lst pa_nil))
    (pss_cons (ps_for PassesOwn.never rfl (pi_tup (pe_ix (r := rIxT K) ix_tup (pv 0) pe_int (fun _ _ => rfl))) (pg_name (i := 2) sc_flat_text.nd rfl (Or.inl rfl))
      (pss_one (ps_expr (pe_bm PySem.F.plainAttrs_list PySem.F.slot_list_append PySem.F.type_list_append mt_append (pv 1) (pa_cons (pe_ifExp (pt_val (C8.pe_c c_is_small hr (by omega) rfl (pa_cons (pv 2) pa_nil))) (C8.pe_c c_flat_text hr (by omega) rfl (pa_cons (pv 2) pa_nil)) (pe_op op_add_str (pe_op op_add_str pe_str (C8.pe_c c_flat_text hr (by omega) rfl (pa_cons (pv 2) pa_nil))) pe_str)) pa_nil)))))
    (pss_one (ps_ret (pe_join (pe_ix ix_kdict (C8.pe_gc rfl T.SIGNS) (pe_ix (r := rIxT K) ix_tup (pv 0) pe_int (fun _ _ => rfl)) (fun _ _ => rfl)) (pv 1)))))))), ?_⟩
    refine ⟨_, rfl, v, d, rfl, hD, hB, fun H1 s1 => ⟨_, rfl, ?_⟩⟩
    have hD1 := s1.dr hD
    cases d with
    | bx i k =>
      simp only [txt] at q
      exact iteT ⟨_, rfl, v, i, k, rfl, hD1, hB, q H1 s1⟩
    | br b ps =>
      refine iteF ⟨_, rfl, pd (.br b ps), pd E0D, hD1.dp, T.drE.dp, sh_pd hB (by omega), sh_E0, _, rfl, ?_⟩
      rw [eqv_E0 hB]
      cases he : isE (.br b ps) with
      | true =>
        have e := isE_iff.mp he
        rw [e, txt_E0] at q
        exact iteT (q H1 s1)
      | false =>
        have hN : Nf (.br b ps) := hN.resolve_left (isE_not.mp he)
        simp only [Nf] at hN
        simp only [Dr] at hD1
        obtain ⟨a, p, vs, rfl, h1, h2, h3⟩ := hD1
        have hlen := h3.len
        simp only [BxA] at hB
        simp only [sz] at hz
        simp only [dep] at hn h30
        have hls := len_szs ps
        refine iteF ⟨Nat.zero_le _, fun o ho => ?_⟩
        have s2 : Same H1 (upd H1 o (.lst [])) := same_new ho
        refine ⟨_, rfl, _, _, _, _, rfl, rfl, s2.tup h1, rfl, _, rfl, ⟨_, s2.tup h2⟩, ?_⟩
        refine for_tup (xs := vs) (fun i σ H' => ∃ y2, σ = [some (.ref a), some (.ref o), y2] ∧ Same H1 H' ∧ H' o = some (.lst (((ptxts (ps.take i)).map S).map V.str))) ⟨_, rfl, s2, by simp [ptxts, upd_same]⟩ (fun i σ H' hi hP => ?_) (fun i x σ H' ex hP => ?_) (fun σ H' hP => ?_)
        · obtain ⟨y2, rfl, e, _⟩ := hP
          exact e.tup h2
        · obtain ⟨y2, rfl, e, eo⟩ := hP
          obtain ⟨d', ed, hd'⟩ := h3.get ex
          have k1 := dep_kid ed
          have k2 := sz_kid ed
          have k3 := ptxts_take ed
          have k4 : (ptxts (ps.take i)).length = (ps.take i).length := by
            have hb : BxAs (ps.take i) := by
              have := bxa_take ps i hB
              exact this
            exact (ptx_sum _ hb).2
          rw [List.length_take] at k4
          have hx := bxa_kid hB ed
          have hnf := nfs_kid hN.2 ed
          refine ⟨_, rfl, .inl ⟨rfl, _, SqL.of eo⟩, _, rfl, x, d', rfl, e.dr hd', hx, fun H2 s3 => ⟨_, rfl, ?_⟩⟩
          have fin : ∀ H3, Same H2 H3 → rAppend (.ref o) [.str (S (ptx d'))] H3 fun _ H4 => ∃ y2, [some (.ref a), some (.ref o), some x] = [some (.ref a), some (.ref o), y2] ∧ Same H1 H4 ∧ H4 o = some (.lst (((ptxts (ps.take (i + 1))).map S).map V.str)) := by
            intro H3 s4
            have eo3 := s4 _ _ (s3 _ _ eo)
            refine ⟨o, _, _, rfl, rfl, eo3, lt_size (by simp; omega), _, rfl, (e.trans (s3.trans s4)).mut ho, ?_⟩
            rw [k3, upd_same]
            simp
          cases d' with
          | bx j k =>
            refine iteT ⟨_, rfl, x, .bx j k, rfl, (e.trans s3).dr hd', .inr hnf, hx, by omega, by omega, by omega, fun H3 s4 => ?_⟩
            simp only [ptx] at fin
            simp only [txt]
            exact fin H3 s4
          | br c qs =>
            refine iteF ⟨_, rfl, x, .br c qs, rfl, (e.trans s3).dr hd', .inr hnf, hx, by omega, by omega, by omega, fun H3 s4 => ?_⟩
            have tl := txt_len _ hx
            have z1 : (S [40]).length + (S (txt (.br c qs))).length ≤ 1000000 := by rw [S_len, S_len]; simp only [List.length_cons, List.length_nil]; omega
            have z2 : (S [40] ++ S (txt (.br c qs))).length + (S [41]).length ≤ 1000000 := by rw [S_app, S_len, S_len]; simp only [List.length_cons, List.length_nil, List.length_append]; omega
            refine ⟨_, _, rfl, rfl, le_size z1, _, _, rfl, rfl, le_size z2, ?_⟩
            have z3 : (("(" : String) : Str) ++ S (txt (.br c qs)) ++ ((")" : String) : Str) = S (ptx (.br c qs)) := by
              show S [40] ++ S (txt (.br c qs)) ++ S [41] = _
              rw [S_app, S_app]
              simp only [ptx]
              rfl
            rw [z3]
            exact fin H3 s4
        · obtain ⟨y2, rfl, e, eo⟩ := hP
          rw [List.take_of_length_le (by omega)] at eo
          obtain ⟨z1, z2⟩ := ptx_sum ps hB
          refine ⟨_, rfl, _, _, _, _, rfl, rfl, e.tup h1, rfl, _, _, _, rfl, rfl, T.sign b, ⟨_, rfl⟩, _, rfl, _, _, _, rfl, rfl, .inl (SqL.of eo), ?_, ?_⟩
          · rw [sum_len, List.length_map, z2, S_len, sep_len]
            omega
          · rw [gl_join, join_S]
            have q1 := q H' (s1.trans e)
            have hne : ps.isEmpty = false := by
              cases ps with
              | nil => simp at hN
              | cons x r => rfl
            simp only [txt, hne] at q1
            exact q1
/-- a def of one parameter, ready to be called by place and by name -/
structure D0K (K : PySem.W.Frag) (mg : Str → Option Value) (x : Str) (st : Stmt) (y : Str) : Prop where
  ex : ∃ f fd, C8.Def K mg x st f fd ∧ Binds K fd [y] [] ∧ ∀ u : Value, bindArgs fd ⟨[], [(y, u)]⟩ = pure [(y, u)]
theorem D0K.both {P : Program} {w : World} {K : PySem.W.Frag} {mg : Str → Option Value} {base : Heap} {x : Str} {st : Stmt} {N : List Str} {y : Str} {k : Nat} {sp : Sp} (F : D0K K mg x st y) (S : FnScope N [y] (C8.fnScope st)) (len : ∀ vs H Q E, sp vs H Q E → vs.length = 1)
    (hbody : ∀ (f : Addr) (cdv : Value) (A : Around) (outer : List Env) (s : Shared) (H : Hp) (vs : List V) (Q : VK) (E : XK), Room k (A.deeper (PyProof.Rows.envOfC x (C8.fnScope st) s.heap.objs.size f cdv)) → sp vs H Q E →
      ∃ t, PSs (cxOf CX0 P w K mg base N x (C8.fnScope st) f cdv A outer s H E).nox (C8.fnBody st) t ∧ t { nx := fun _ H' => Q .non H', rt := Q } (start N vs) H) : C8.Cal P w K mg base (k + 1) x sp [] ∧ CalK P w K mg base (k + 1) x y sp := by
  obtain ⟨f, fd, F, b, hb⟩ := F.ex
  have F0 := C8.fn0 (P := P) (w := w) (mg := mg) (base := base) F.fn S len (hbody f)
  exact ⟨⟨f, fd, [y], [], F0, F.mgf, F.kp, b, .nil⟩, ⟨f, fd, F0, F.mgf, F.kp, hb⟩⟩
/-- the text of a drawing -/
def spDText (K : PySem.W.Frag) : Sp := fun vs H Q _ => ∃ (v : V) (d : D), vs = [v] ∧ Dr K H d v ∧ BxA d ∧ sz d ≤ 5000 ∧ dep d ≤ 30 ∧ ∀ H', Same H H' → Q (.str (S (txt (flat d)))) H'
abbrev s_drawing_text : Stmt := top 26
abbrev N_drawing_text : List Str := ["drawing"]
theorem sc_drawing_text : FnScope N_drawing_text ["drawing"] (C8.fnScope s_drawing_text) := C8.fnScope_by (by decide +kernel)
theorem ok_drawing_text {P : Program} {w : World} {K : PySem.W.Frag} {mg : Str → Option Value} {base : Heap} (T : Tp0 w K mg) (F : D0K K mg "drawing_text" s_drawing_text "drawing")
    (c_f : ∀ n, C8.Cal P w K mg base (n + 2) "flattened" (spFlat K n) []) (c_t : ∀ n, C8.Cal P w K mg base (n + 2) "flat_text" (spText K n) []) : C8.Cal P w K mg base 40 "drawing_text" (spDText K) [] ∧ CalK P w K mg base 40 "drawing_text" "drawing" (spDText K) := by
  have c_flattened := c_f 31
  have c_flat_text := c_t 31
  refine F.both (k := 39) sc_drawing_text (fun vs H Q E h => ?_) (fun f cdv A outer s H vs Q E hr h => ?_)
  · obtain ⟨_, _, rfl, _⟩ := h
    rfl
  obtain ⟨v, d, rfl, hD, hB, hz, h30, q⟩ := h
  refine ⟨_, (pss_one (ps_ret (C8.pe_c c_flat_text hr (by omega) rfl (pa_cons (C8.pe_c c_flattened hr (by omega) rfl (pa_cons (pv 0) pa_nil)) pa_nil)))), ?_⟩
  have zf := sz_flat d
  have df := dep_flat d
  refine ⟨_, rfl, v, d, rfl, hD, hB, hz, h30, by omega, fun v' H1 s1 h' => ?_⟩
  exact ⟨v', flat d, rfl, h', flat_nf d, bxa_flat hB, by omega, by omega, by omega, fun H2 s2 => q H2 (s1.trans s2)⟩
end K9

set_option maxHeartbeats 4000000
namespace K9
open PySem PySem.Spec L2
/-! ### the boxes that are tried -/
def bxl (l : List (Nat × Nat)) : List D := l.map fun p => .bx p.1 p.2
def bxo (i : Nat) : List (Nat × Nat) := if isnum i then (List.range 7).map fun k => (i, k) else [(i, 0)]
theorem BX_eq : BX = (List.range 14).flatMap bxo := rfl
theorem bxl_app (l m : List (Nat × Nat)) : bxl (l ++ m) = bxl l ++ bxl m := List.map_append
theorem num_in : ∀ i, i < 14 → inV (.str (word i)) [.str ("times" : Str), .str ("untimes" : Str)] = isnum i := by decide +kernel
/-- a new list of all the small boxes -/
def spAll (K : PySem.W.Frag) : Sp := fun vs H Q _ => vs = [] ∧ ∀ o xs H', Same H H' → H' o = some (.lst xs) → H o = none → Drs K H' (bxl BX) xs → Q (.ref o) H'
abbrev s_all_boxes : Stmt := top 27
abbrev N_all_boxes : List Str := ["found", "word", "number"]
theorem sc_all_boxes : FnScope N_all_boxes [] (C8.fnScope s_all_boxes) := C8.fnScope_by (by decide +kernel)
theorem ok_all_boxes {P : Program} {w : World} {K : PySem.W.Frag} {mg : Str → Option Value} {base : Heap} (T : Tp0 w K mg) (F : D0 K mg "all_boxes" s_all_boxes []) : C8.Cal P w K mg base 1 "all_boxes" (spAll K) [] := by
  refine F.ok sc_all_boxes (fun vs H Q E h => ?_) (fun f cdv A outer s H vs Q E hr h => ?_)
  · obtain ⟨rfl, _⟩ := h
    rfl
  obtain ⟨rfl, q⟩ := h
  refine ⟨_, (pss_cons (ps_set (i := 0) sc_all_boxes.nd rfl (Or.inl rfl) (pe_lst pa_nil))
    (pss_cons (ps_for PassesOwn.never rfl (pi_kd (C8.pe_gc rfl T.BOX_ENDS)) (pg_name (i := 1) sc_all_boxes.nd rfl (Or.inr rfl))
      (pss_one (ps_if (pt_cmpR op_in_seq (pv 1) (pe_tup (pa_cons pe_str (pa_cons pe_str pa_nil))) (by rfl))
          (pss_one (ps_expr (pe_bm PySem.F.plainAttrs_list PySem.F.slot_list_extend PySem.F.type_list_extend mt_extend (pv 0) (pa_cons (pe_lc (own := [("number", 2)]) (g := gName 2) (tt := tYes) rfl sc_all_boxes.nd (pi_range1 rfl T.range (pa_cons (pe_op op_add (C8.pe_gc rfl T.MAX_TIMES) pe_int) pa_nil)) (blkOk_by (N := N_all_boxes) (sc := C8.fnScope s_all_boxes) (by decide +kernel)) (fun _ _ _ _ _ => (pg_name (i := 2) sc_all_boxes.nd rfl (Or.inl rfl))) (fun _ _ _ _ _ => pts_nil) (fun _ _ _ _ _ => (pe_tup (pa_cons (pv 1) (pa_cons (pv 2) pa_nil))))) pa_nil))))
          (pss_one (ps_expr (pe_bm PySem.F.plainAttrs_list PySem.F.slot_list_append PySem.F.type_list_append mt_append (pv 0) (pa_cons (pe_tup (pa_cons (pv 1) pa_nil)) pa_nil)))))))
    (pss_one (ps_ret (pv 0))))), ?_⟩
  refine ⟨Nat.zero_le _, fun o ho => ?_⟩
  have s1 : Same H (upd H o (.lst [])) := same_new ho
  refine ⟨_, _, rfl, T.keys, ?_⟩
  refine for_kd (fun i σ H' => ∃ y1 y2 xs, σ = [some (.ref o), y1, y2] ∧ Same H H' ∧ H' o = some (.lst xs) ∧ Drs K H' (bxl ((List.range i).flatMap bxo)) xs ∧ xs.length ≤ 7 * i) ⟨_, _, [], rfl, s1, upd_same, by simp [bxl, Drs], Nat.le_refl _⟩ (fun i k σ H' hk hP => ?_) (fun σ H' hP => ?_)
  · obtain ⟨y1, y2, xs, rfl, e, eo, hx, hl⟩ := hP
    rw [List.getElem?_map] at hk
    have hi : i < 14 := by
      cases c : (List.range 14)[i]? with
      | none =>
        rw [c] at hk
        cases hk
      | some j =>
        have := (List.getElem?_eq_some_iff.mp c).1
        simpa using this
    rw [List.getElem?_range hi] at hk
    cases hk
    have er : (List.range (i + 1)).flatMap bxo = (List.range i).flatMap bxo ++ bxo i := by rw [List.range_succ, List.flatMap_append]; simp
    refine ⟨_, rfl, by show 2 ≤ sizeLine; decide, fun t ht => ?_⟩
    have s2 : Same H' (upd H' t (.tup [.str "times", .str "untimes"])) := same_new ht
    refine ⟨t, _, rfl, .inr (SqT.of upd_same), rfl, rfl, _, rfl, ?_⟩
    rw [if_neg (by decide), show inV (V.str (word i)) [V.str "times", V.str "untimes"] = isnum i from num_in i hi]
    generalize upd H' t (.tup [.str "times", .str "untimes"]) = H1 at s2
    have eo1 := s2 _ _ eo
    have e1 := e.trans s2
    cases hn : isnum i with
    | false =>
      have eb : bxo i = [(i, 0)] := by simp [bxo, hn]
      refine iteF ⟨_, rfl, .inl ⟨rfl, _, SqL.of eo1⟩, _, rfl, by show 1 ≤ sizeLine; decide, fun t2 ht2 => ?_⟩
      have s3 : Same H1 (upd H1 t2 (.tup [.str (word i)])) := same_new ht2
      refine ⟨o, xs, _, rfl, rfl, s3 _ _ eo1, lt_size (by omega), ?_⟩
      have kk := kp_lst (o := .lst (xs ++ [.ref t2])) (s3 _ _ eo1)
      refine ⟨_, _, _, rfl, (e1.trans s3).mut ho, upd_same, ?_, by simp; omega⟩
      rw [er, bxl_app, eb]
      refine Drs.app (((s2.trans s3).kp.trans kk).drs hx) (Drs.one ?_)
      simp only [Dr]
      refine ⟨t2, rfl, ?_⟩
      unfold bv
      rw [hn]
      exact kk.tup (SqT.of upd_same)
    | true =>
      have eb : bxo i = (List.range 7).map fun k => (i, k) := by simp [bxo, hn]
      refine iteT ⟨_, rfl, .inl ⟨rfl, _, SqL.of eo1⟩, _, _, rfl, rfl, _, rfl, by omega, by omega, fun o2 ho2 => ?_⟩
      refine lc_range (lo := 0) (n := 7) (fun j H3 => Same H1 H3 ∧ ∃ zs, H3 o2 = some (.lst zs) ∧ Drs K H3 (bxl ((List.range j).map fun k => (i, k))) zs ∧ zs.length ≤ j) ⟨same_new ho2, [], upd_same, by simp [bxl, Drs], Nat.le_refl _⟩ (fun j H3 hj hP => ?_) (fun H3 hP => ?_)
      · obtain ⟨e3, zs, eo2, hz, hzl⟩ := hP
        refine ⟨rfl, tyes ⟨_, rfl, _, rfl, by show 2 ≤ sizeLine; decide, fun t3 ht3 => ?_⟩⟩
        have s4 := same_new (o := .tup [.str (word i), .int (0 + (j : Int))]) ht3
        refine ⟨zs, s4 _ _ eo2, lt_size (by omega), (e3.trans s4).mut ho2, _, upd_same, ?_, by simp; omega⟩
        have kk := kp_lst (o := .lst (zs ++ [.ref t3])) (s4 _ _ eo2)
        rw [List.range_succ, List.map_append, bxl_app]
        refine Drs.app ((s4.kp.trans kk).drs hz) (Drs.one ?_)
        simp only [Dr]
        refine ⟨t3, rfl, ?_⟩
        unfold bv
        rw [hn]
        have := kk.tup (SqT.of (K := K) (upd_same (H := H3) (a := t3) (o := .tup [.str (word i), .int (0 + (j : Int))])))
        simpa using this
      · obtain ⟨e3, zs, eo2, hz, hzl⟩ := hP
        refine ⟨o, o2, xs, zs, rfl, rfl, e3 _ _ eo1, eo2, le_size (by omega), ?_⟩
        have kk := kp_lst (o := .lst (xs ++ zs)) (e3 _ _ eo1)
        refine ⟨_, _, _, rfl, (e1.trans e3).mut ho, upd_same, ?_, by simp; omega⟩
        rw [er, bxl_app, eb]
        exact Drs.app (((s2.trans e3).kp.trans kk).drs hx) (kk.drs hz)
  · obtain ⟨y1, y2, xs, rfl, e, eo, hx, hl⟩ := hP
    exact ⟨_, rfl, q o xs H' e eo ho hx⟩
/-! ### how much of two texts is alike -/
def lcp : List Nat → List Nat → Nat
  | a :: p, b :: r => if a = b then lcp p r + 1 else 0
  | _, _ => 0
theorem lcp_le : ∀ p r : List Nat, lcp p r ≤ r.length
  | [], _ => by simp [lcp]
  | _ :: _, [] => by simp [lcp]
  | a :: p, b :: r => by
    simp only [lcp]
    split
    · have := lcp_le p r
      simp
      omega
    · simp
theorem lcp_leL : ∀ p r : List Nat, lcp p r ≤ p.length
  | [], _ => by simp [lcp]
  | _ :: _, [] => by simp [lcp]
  | a :: p, b :: r => by
    simp only [lcp]
    split
    · have := lcp_leL p r
      simp
      omega
    · simp
theorem lcp_pre : ∀ p r : List Nat, lcp p r = r.length ↔ isPre r p = true
  | p, [] => by cases p <;> simp [lcp, isPre]
  | [], b :: r => by simp [lcp, isPre]
  | a :: p, b :: r => by
    have ih := lcp_pre p r
    simp only [lcp, isPre, List.length_cons, Bool.and_eq_true, beq_iff_eq]
    by_cases c : a = b
    · rw [if_pos c]
      constructor
      · intro h
        exact ⟨c.symm, ih.mp (by omega)⟩
      · intro h
        have := ih.mpr h.2
        omega
    · rw [if_neg c]
      constructor
      · intro h
        omega
      · intro h
        exact absurd h.1.symm c
/-- how many signs are alike from that place on -/
def spCommon : Sp := fun vs H Q _ => ∃ (l g : List Nat) (s : Nat), vs = [.str (S l), .int (s : Int), .str (S g)] ∧ s ≤ l.length ∧ l.length ≤ 100000 ∧ g.length ≤ 1000 ∧ Q (.int (lcp (l.drop s) g : Int)) H
theorem at_S {l : List Nat} {i : Nat} {z : Int} (h : i < l.length) (e : z = (i : Int)) : ∃ c, l[i]? = some c ∧ atI (S l).cps.toList z = some c := by
  refine ⟨l[i], List.getElem?_eq_getElem h, ?_⟩
  subst e
  refine atI_nat ?_
  show (l.toArray.toList)[i]? = _
  rw [List.toList_toArray]
  exact List.getElem?_eq_getElem h
abbrev s_common : Stmt := top 28
abbrev N_common : List Str := ["text", "start", "goal", "many"]
theorem sc_common : FnScope N_common ["text", "start", "goal"] (C8.fnScope s_common) := C8.fnScope_by (by decide +kernel)
theorem ok_common {P : Program} {w : World} {K : PySem.W.Frag} {mg : Str → Option Value} {base : Heap} (T : Tp0 w K mg) (F : D0 K mg "common" s_common ["text", "start", "goal"]) : C8.Cal P w K mg base 1 "common" spCommon [] := by
  refine F.ok sc_common (fun vs H Q E h => ?_) (fun f cdv A outer s H vs Q E hr h => ?_)
  · obtain ⟨_, _, _, rfl, _⟩ := h
    rfl
  obtain ⟨l, g, st, rfl, hs, hl, hg, q⟩ := h
  refine ⟨_, (pss_cons (ps_set (i := 3) sc_common.nd rfl (Or.inl rfl) pe_int)
    (pss_cons (ps_while PassesOwn.never (PW.pt (pw_and (pt_cmpR op_lt (pv 3) (pe_callB call_len_str rfl T.len bo_len (pa_cons (pv 2) pa_nil)) (nomark _)) (pw_and (pt_cmpR op_lt (pe_op op_add (pv 1) (pv 3)) (pe_callB call_len_str rfl T.len bo_len (pa_cons (pv 0) pa_nil)) (nomark _)) (pw_and1 (pt_cmpR op_eq (pe_ix ix_str (pv 0) (pe_op op_add (pv 1) (pv 3)) (fun _ _ => rfl)) (pe_ix ix_str (pv 2) (pv 3) (fun _ _ => rfl)) (nomark _))))))
      (pss_one (ps_aug (i := 3) sc_common.nd rfl (Or.inl rfl) pe_int ip_add)))
    (pss_one (ps_ret (pv 3))))), ?_⟩
  refine ⟨fun n σ H' => H' = H ∧ ∃ m : Nat, n = g.length - m ∧ σ = [some (.str (S l)), some (.int (st : Int)), some (.str (S g)), some (.int (m : Int))] ∧ m ≤ g.length ∧ st + m ≤ l.length ∧ lcp (l.drop st) g = m + lcp (l.drop (st + m)) (g.drop m), ⟨g.length, rfl, 0, by simp, rfl, by omega, by omega, by simp⟩, ?_⟩
  rintro n σ H' ⟨rfl, m, rfl, rfl, hm, hsm, he⟩
  have done : lcp (l.drop (st + m)) (g.drop m) = 0 → tRet (tVar 3) { nx := fun _ H' => Q .non H', rt := Q } [some (.str (S l)), some (.int (st : Int)), some (.str (S g)), some (.int (m : Int))] H' := fun z => by
    refine ⟨_, rfl, ?_⟩
    rw [he, z] at q
    exact q
  refine ⟨_, rfl, _, rfl, _, rfl, (by rw [S_len]; exact le_size (by omega)), _, _, rfl, rfl, _, rfl, ?_⟩
  rw [S_len]
  by_cases c1 : m < g.length
  · rw [decide_eq_true (by omega : (m : Int) < (g.length : Int))]
    refine iteT ⟨_, rfl, _, rfl, _, _, rfl, rfl, _, rfl, _, rfl, (by rw [S_len]; exact le_size (by omega)), _, _, rfl, rfl, _, rfl, ?_⟩
    rw [S_len]
    by_cases c2 : st + m < l.length
    · rw [decide_eq_true (by omega : (st : Int) + (m : Int) < (l.length : Int))]
      obtain ⟨c, g1, g2⟩ := at_S (z := (st : Int) + (m : Int)) c2 (by omega)
      obtain ⟨d, g3, g4⟩ := at_S (z := (m : Int)) c1 rfl
      have d1 : l.drop (st + m) = c :: l.drop (st + (m + 1)) := by
        obtain ⟨h1, h2⟩ := List.getElem?_eq_some_iff.mp g1
        rw [List.drop_eq_getElem_cons h1, h2]
        rfl
      have d2 : g.drop m = d :: g.drop (m + 1) := by
        obtain ⟨h1, h2⟩ := List.getElem?_eq_some_iff.mp g3
        rw [List.drop_eq_getElem_cons h1, h2]
      rw [d1, d2] at he done
      refine iteT ⟨_, rfl, _, rfl, _, rfl, _, _, rfl, rfl, _, _, _, rfl, rfl, (by rw [S_len]; exact le_size (by omega)), g2, _, rfl, _, rfl, _, _, _, rfl, rfl, (by rw [S_len]; exact le_size (by omega)), g4, rfl, _, rfl, ?_⟩
      have ec : decide (V.str ⟨#[c]⟩ = V.str ⟨#[d]⟩) = decide (c = d) := by simp
      rw [ec]
      by_cases c3 : c = d
      · rw [decide_eq_true c3]
        refine ⟨_, fun σ' H' h => h, ?_⟩
        refine ⟨_, rfl, _, _, rfl, rfl, g.length - (m + 1), by omega, rfl, m + 1, rfl, rfl, by omega, by omega, ?_⟩
        rw [he]
        simp only [lcp, if_pos c3]
        omega
      · rw [decide_eq_false c3]
        exact done (by simp only [lcp, if_neg c3])
    · rw [decide_eq_false (by omega : ¬ (st : Int) + (m : Int) < (l.length : Int))]
      refine iteF (done ?_)
      rw [List.drop_eq_nil_of_le (by omega)]
      rfl
  · rw [decide_eq_false (by omega : ¬ (m : Int) < (g.length : Int))]
    refine iteF (done ?_)
    rw [List.drop_eq_nil_of_le (as := g) (by omega)]
    cases l.drop (st + m) <;> rfl
end K9

set_option maxHeartbeats 4000000
namespace K9
open PySem PySem.Spec L2
theorem BX_ok : ∀ p ∈ BX, p.1 < 14 ∧ p.2 ≤ 6 ∧ (isnum p.1 = false → p.2 = 0) := by decide +kernel
theorem BX_at {i : Nat} {d : D} (h : (bxl BX)[i]? = some d) : ∃ j k, d = .bx j k ∧ BxOk j k ∧ BX[i]? = some (j, k) := by
  unfold bxl at h
  rw [List.getElem?_map] at h
  cases c : BX[i]? with
  | none =>
    rw [c] at h
    cases h
  | some p =>
    rw [c] at h
    cases h
    exact ⟨p.1, p.2, rfl, BX_ok p (List.mem_of_getElem? c), rfl⟩
/-- the small box whose text stands at that place, or None -/
def spBoxAt (K : PySem.W.Frag) : Sp := fun vs H Q _ => ∃ (l : List Nat) (s : Nat) (o : Addr) (xs : List V), vs = [.str (S l), .int (s : Int), .ref o] ∧ s ≤ l.length ∧ l.length ≤ 100000 ∧ H o = some (.lst xs) ∧ Drs K H (bxl BX) xs ∧
  (∀ i k x t H', BxOk i k → boxAt (l.drop s) = some (.bx i k, l.drop (s + (btxt i k).length)) → s + (btxt i k).length ≤ l.length → Same H H' → Dr K H' (.bx i k) x → SqT K H' t [x, .int ((btxt i k).length : Int)] → Q (.ref t) H') ∧
  (∀ (m : Int) t H', boxAt (l.drop s) = none → Same H H' → SqT K H' t [.non, .int m] → Q (.ref t) H')
abbrev s_box_at : Stmt := top 29
abbrev N_box_at : List Str := ["text", "start", "boxes", "most", "box", "goal", "many"]
theorem sc_box_at : FnScope N_box_at ["text", "start", "boxes"] (C8.fnScope s_box_at) := C8.fnScope_by (by decide +kernel)
theorem ok_box_at {P : Program} {w : World} {K : PySem.W.Frag} {mg : Str → Option Value} {base : Heap} (T : Tp0 w K mg) (F : D0 K mg "box_at" s_box_at ["text", "start", "boxes"])
    (c_box_text : C8.Cal P w K mg base 1 "box_text" (spBText K) []) (c_common : C8.Cal P w K mg base 1 "common" spCommon []) : C8.Cal P w K mg base 2 "box_at" (spBoxAt K) [] := by
  refine F.ok sc_box_at (fun vs H Q E h => ?_) (fun f cdv A outer s H vs Q E hr h => ?_)
  · obtain ⟨_, _, _, _, rfl, _⟩ := h
    rfl
  obtain ⟨l, st, o, xs, rfl, hs, hl, ho, hx, q1, q2⟩ := h
  refine ⟨_, (pss_cons (ps_set (i := 3) sc_box_at.nd rfl (Or.inl rfl) pe_int)
    (pss_cons (ps_for PassesOwn.never rfl (pi_list (pv 2)) (pg_name (i := 4) sc_box_at.nd rfl (Or.inl rfl))
      (pss_cons (ps_set (i := 5) sc_box_at.nd rfl (Or.inl rfl) (C8.pe_c c_box_text hr (by omega) rfl (pa_cons (pv 4) pa_nil)))
        (pss_cons (ps_set (i := 6) sc_box_at.nd rfl (Or.inl rfl) (C8.pe_c c_common hr (by omega) rfl (pa_cons (pv 0) (pa_cons (pv 1) (pa_cons (pv 5) pa_nil)))))
        (pss_cons (ps_if (pt_cmpR op_eq (pv 6) (pe_callB call_len_str rfl T.len bo_len (pa_cons (pv 5) pa_nil)) (nomark _))
          (pss_one (ps_ret (pe_tup (pa_cons (pv 4) (pa_cons (pv 6) pa_nil)))))
          pss_nil)
        (pss_one (ps_set (i := 3) sc_box_at.nd rfl (Or.inl rfl) (pe_callB (call_max2 rfl) rfl T.max bo_max (pa_cons (pv 3) (pa_cons (pv 6) pa_nil)))))))))
    (pss_one (ps_ret (pe_tup (pa_cons pe_non (pa_cons (pv 3) pa_nil))))))), ?_⟩
  have hxl := hx.len
  refine ⟨_, rfl, _, rfl, ⟨_, SqL.of ho⟩, ?_⟩
  refine for_list (xs := xs) (fun i σ H' => ∃ (m : Int) (y4 y5 y6 : Option V), σ = [some (.str (S l)), some (.int (st : Int)), some (.ref o), some (.int m), y4, y5, y6] ∧ H' = H ∧ boxIn (l.drop st) BX = boxIn (l.drop st) (BX.drop i)) ⟨_, _, _, _, rfl, rfl, rfl⟩ (fun i σ H' hi hP => ?_) (fun i x σ H' ex hP => ?_) (fun σ H' hP => ?_)
  · obtain ⟨m, y4, y5, y6, rfl, rfl, _⟩ := hP
    exact SqL.of ho
  · obtain ⟨m, y4, y5, y6, rfl, rfl, hb⟩ := hP
    obtain ⟨d, ed, hd⟩ := hx.get ex
    obtain ⟨j, k, rfl, ok, eb⟩ := BX_at ed
    have bl := btxt_len ok
    have ed2 : BX.drop i = (j, k) :: BX.drop (i + 1) := by
      obtain ⟨h1, h2⟩ := List.getElem?_eq_some_iff.mp eb
      rw [List.drop_eq_getElem_cons h1, h2]
    rw [ed2] at hb
    simp only [boxIn] at hb
    refine ⟨_, rfl, x, j, k, rfl, hd, ok, ?_⟩
    refine ⟨_, rfl, _, rfl, _, rfl, l, btxt j k, st, rfl, hs, hl, by omega, ?_⟩
    refine ⟨_, rfl, _, rfl, _, rfl, (by rw [S_len]; exact le_size (by omega)), rfl, _, rfl, ?_⟩
    rw [S_len]
    by_cases c : lcp (l.drop st) (btxt j k) = (btxt j k).length
    · rw [c, decide_eq_true rfl]
      have c' := (lcp_pre _ _).mp c
      rw [if_pos c'] at hb
      have c2 := lcp_leL (l.drop st) (btxt j k)
      rw [List.length_drop] at c2
      rw [List.drop_drop] at hb
      refine iteT ⟨_, rfl, _, rfl, by show 2 ≤ sizeLine; decide, fun t ht => ?_⟩
      have s1 := same_new (o := .tup [x, .int ((btxt j k).length : Int)]) ht
      exact q1 j k x t _ ok hb (by omega) s1 (s1.dr hd) (SqT.of upd_same)
    · have c' : ¬ (isPre (btxt j k) (l.drop st) = true) := fun z => c ((lcp_pre _ _).mpr z)
      rw [if_neg c'] at hb
      rw [decide_eq_false (by simp only [V.int.injEq]; omega)]
      refine iteF ⟨_, rfl, _, rfl, _, _, rfl, ?_⟩
      exact ⟨_, _, _, _, rfl, rfl, hb⟩
  · obtain ⟨m, y4, y5, y6, rfl, rfl, hb⟩ := hP
    have hbl : (BX.drop xs.length) = [] := by
      rw [List.drop_eq_nil_of_le]
      rw [hxl]
      simp [bxl]
    rw [hbl] at hb
    refine ⟨_, rfl, by show 2 ≤ sizeLine; decide, fun t ht => ?_⟩
    exact q2 m t _ hb (same_new ht) (SqT.of upd_same)
/-! ### the opened brackets in the heap -/
section
variable (K : PySem.W.Frag) (H : Hp)
/-- the innermost first; the addresses that may change -/
def SR : Stk → List Addr → List V → Prop
  | [], as, xs => as = [] ∧ xs = []
  | (b, ps) :: st, as, xs => ∃ c p vs as' r, as = c :: p :: as' ∧ xs = .ref c :: r ∧ H c = some (.lst [.str (kw b), .ref p]) ∧ H p = some (.lst vs) ∧ Drs K H ps vs ∧ SR st as' r
end
/-- all but these stays -/
def Tch (H H' : Hp) (as : List Addr) : Prop := ∀ a u, H a = some u → a ∉ as → H' a = some u
theorem Tch.refl (H : Hp) (as : List Addr) : Tch H H as := fun _ _ h _ => h
theorem Tch.trans {H H1 H2 : Hp} {as bs : List Addr} (h : Tch H H1 as) (h' : Tch H1 H2 bs) (sub : ∀ a ∈ bs, a ∈ as) : Tch H H2 as := fun a u e n => h' a u (h a u e n) fun z => n (sub a z)
theorem _root_.L2.Same.tch {H H' : Hp} (e : Same H H') (as : List Addr) : Tch H H' as := fun a u h _ => e a u h
theorem tch_upd {H : Hp} {p : Addr} {o : HO} {as : List Addr} (h : p ∈ as) : Tch H (upd H p o) as := fun a u e n => by
  rw [upd_ne]
  · exact e
  · intro z
    subst z
    exact n h
theorem Tch.same {H0 H H' : Hp} {as : List Addr} (e : Same H0 H) (t : Tch H H' as) (n : ∀ a ∈ as, H0 a = none) : Same H0 H' := fun a u h => t a u (e a u h) fun z => by
  rw [n a z] at h
  cases h
section
variable {K : PySem.W.Frag} {H H' : Hp}
theorem SR.keep (kp : Kp H H') : ∀ {st : Stk} {as : List Addr} {xs : List V}, SR K H st as xs → (∀ a ∈ as, ∀ u, H a = some u → H' a = some u) → SR K H' st as xs
  | [], as, xs, h, _ => h
  | (b, ps) :: st, as, xs, h, n => by
    simp only [SR] at h ⊢
    obtain ⟨c, p, vs, as', r, rfl, rfl, h1, h2, h3, h4⟩ := h
    exact ⟨c, p, vs, as', r, rfl, rfl, n c (by simp) _ h1, n p (by simp) _ h2, kp.drs h3, SR.keep kp h4 fun a ha => n a (by simp [ha])⟩
theorem SR.len : ∀ {st : Stk} {as : List Addr} {xs : List V}, SR K H st as xs → xs.length = st.length
  | [], as, xs, h => by
    obtain ⟨rfl, rfl⟩ := h
    rfl
  | (b, ps) :: st, as, xs, h => by
    simp only [SR] at h
    obtain ⟨c, p, vs, as', r, rfl, rfl, h1, h2, h3, h4⟩ := h
    simp [SR.len h4]
theorem SR.has : ∀ {st : Stk} {as : List Addr} {xs : List V}, SR K H st as xs → ∀ a ∈ as, ∃ l, H a = some (.lst l)
  | [], as, xs, h, a, ha => by
    obtain ⟨rfl, rfl⟩ := h
    simp at ha
  | (b, ps) :: st, as, xs, h, a, ha => by
    simp only [SR] at h
    obtain ⟨c, p, vs, as', r, rfl, rfl, h1, h2, h3, h4⟩ := h
    rcases List.mem_cons.mp ha with rfl | ha
    · exact ⟨_, h1⟩
    · rcases List.mem_cons.mp ha with rfl | ha
      · exact ⟨_, h2⟩
      · exact SR.has h4 a ha
end
theorem cut1 {l : List Nat} {p : Nat} (h : p ≤ l.length) : cutS (S l) (some (p : Int)) (some ((p : Int) + 1)) = S ((l.drop p).take 1) := by
  unfold cutS
  rw [S_len, HT.sIx_nat, show ((p : Int) + 1) = ((p + 1 : Nat) : Int) by omega, HT.sIx_nat, S_list, Nat.min_eq_left h]
  by_cases c : p < l.length
  · rw [Nat.min_eq_left (by omega), show p + 1 - p = 1 by omega]
    rfl
  · have : l.drop p = [] := List.drop_eq_nil_of_le (by omega)
    rw [this]
    simp [S]
theorem take1_eq {r : List Nat} {c : Nat} : decide (V.str (S (r.take 1)) = V.str (S [c])) = (r.head? == some c) := by
  rw [S_dec]
  cases r with
  | nil => rfl
  | cons x r =>
    simp
    rfl
/-- brackets are closed as long as they can be -/
def spClosed (K : PySem.W.Frag) : Sp := fun vs H Q _ => ∃ (l : List Nat) (s : Nat) (o : Addr) (st : Stk) (as : List Addr) (xs : List V), vs = [.str (S l), .int (s : Int), .ref o] ∧ s ≤ l.length ∧ l.length ≤ 100000 ∧ H o = some (.lst xs.reverse) ∧ SR K H st as xs ∧ (o :: as).Nodup ∧ st.length ≤ 12 ∧ (∀ e ∈ st, e.2.length ≤ 100000) ∧
  ∀ (s' : Nat) (st' : Stk) (as' : List Addr) (xs' : List V) (H' : Hp), closeS st (l.drop s) = (st', l.drop s') → s ≤ s' → s' ≤ l.length → Kp H H' → Tch H H' (o :: as) → H' o = some (.lst xs'.reverse) → SR K H' st' as' xs' → (∀ a ∈ as', a ∈ as) → (o :: as').Nodup → Q (.int (s' : Int)) H'
def topP : Stk → List D
  | [] => []
  | (_, ps) :: _ => ps
theorem closeS_stop {st : Stk} {r : List Nat} (h : ¬ (r.head? = some 41 ∧ 1 < st.length ∧ 1 < (topP st).length)) : closeS st r = (st, r) := by
  unfold closeS
  split
  · next b ps c qs st' r' =>
    by_cases c1 : 1 < ps.length
    · exact absurd ⟨rfl, by simp, c1⟩ h
    · rw [if_neg c1]
  · rfl
theorem closeS_go {b c : Bool} {ps qs : List D} {st : Stk} {r : List Nat} (h : 1 < ps.length) : closeS ((b, ps) :: (c, qs) :: st) (41 :: r) = closeS ((c, qs ++ [.br b ps]) :: st) r := by
  rw [closeS, if_pos h]
abbrev s_closed_at : Stmt := top 30
abbrev N_closed_at : List Str := ["text", "start", "opened", "place", "word", "parts"]
theorem sc_closed_at : FnScope N_closed_at ["text", "start", "opened"] (C8.fnScope s_closed_at) := C8.fnScope_by (by decide +kernel)
theorem ok_closed_at {P : Program} {w : World} {K : PySem.W.Frag} {mg : Str → Option Value} {base : Heap} (T : Tp0 w K mg) (F : D0 K mg "closed_at" s_closed_at ["text", "start", "opened"]) : C8.Cal P w K mg base 1 "closed_at" (spClosed K) [] := by
  refine F.ok sc_closed_at (fun vs H Q E h => ?_) (fun f cdv A outer s H vs Q E hr h => ?_)
  · obtain ⟨_, _, _, _, _, _, rfl, _⟩ := h
    rfl
  obtain ⟨l, st0, o, st, as, xs, rfl, hs, hl, ho, hS, hnd, h12, hlen, q⟩ := h
  refine ⟨_, (pss_cons (ps_set (i := 3) sc_closed_at.nd rfl (Or.inl rfl) (pv 1))
    (pss_cons (ps_while PassesOwn.never (PW.pt (pw_and (pt_cmpR op_eq (pe_slice sl_str (pv 0) (po_some (pv 3)) (po_some (pe_op op_add (pv 3) pe_int))) pe_str (nomark _)) (pw_and (pt_cmpR op_gt (pe_callB call_len_seq rfl T.len bo_len (pa_cons (pv 2) pa_nil)) pe_int (nomark _)) (pw_and1 (pt_cmpR op_gt (pe_callB call_len_seq rfl T.len bo_len (pa_cons (pe_ix (r := rIxL K) ix_list (pe_ix (r := rIxL K) ix_list (pv 2) (pe_un un_neg pe_int) (fun _ _ => rfl)) pe_int (fun _ _ => rfl)) pa_nil)) pe_int (nomark _))))))
      (pss_cons (ps_asg (pe_bm0 PySem.F.plainAttrs_list PySem.F.slot_list_pop PySem.F.type_list_pop mt_pop (pv 2)) (pg_unl rfl (pgs_cons (pg_name (i := 4) sc_closed_at.nd rfl (Or.inl rfl)) (pgs_cons (pg_name (i := 5) sc_closed_at.nd rfl (Or.inl rfl)) pgs_nil))))
        (pss_cons (ps_expr (pe_bm PySem.F.plainAttrs_list PySem.F.slot_list_append PySem.F.type_list_append mt_append (pe_ix (r := rIxL K) ix_list (pe_ix (r := rIxL K) ix_list (pv 2) (pe_un un_neg pe_int) (fun _ _ => rfl)) pe_int (fun _ _ => rfl)) (pa_cons (pe_tup (pa_cons (pv 4) (pa_cons (pe_callTy call_tuple_of rfl T.tuple bo_tuple (pa_cons (pv 5) pa_nil)) pa_nil))) pa_nil)))
        (pss_one (ps_aug (i := 3) sc_closed_at.nd rfl (Or.inl rfl) pe_int ip_add)))))
    (pss_one (ps_ret (pv 3))))), ?_⟩
  refine ⟨_, rfl, ?_⟩
  refine ⟨fun n σ H' => ∃ (p : Nat) (st' : Stk) (as' : List Addr) (xs' : List V) (y4 y5 : Option V), n = l.length - p ∧ σ = [some (.str (S l)), some (.int (st0 : Int)), some (.ref o), some (.int (p : Int)), y4, y5] ∧ p ≤ l.length ∧ st0 ≤ p ∧ closeS st (l.drop st0) = closeS st' (l.drop p) ∧ Kp H H' ∧ Tch H H' (o :: as) ∧
    H' o = some (.lst xs'.reverse) ∧ SR K H' st' as' xs' ∧ (∀ a ∈ as', a ∈ as) ∧ (o :: as').Nodup ∧ st'.length ≤ 12 ∧ (∀ e ∈ st', e.2.length ≤ 100000 + p), ⟨_, st0, st, as, xs, _, _, rfl, rfl, hs, Nat.le_refl _, rfl, Kp.refl _, Tch.refl _ _, ho, hS, fun _ z => z, hnd, h12, fun e he => Nat.le_trans (hlen e he) (by omega)⟩, ?_⟩
  rintro n σ H' ⟨p, st', as', xs', y4, y5, rfl, rfl, hp, hsp, he, kp, tc, ho', hS', hsub, hnd', h12', hlen'⟩
  have done : closeS st' (l.drop p) = (st', l.drop p) → tRet (tVar 3) { nx := fun _ H' => Q .non H', rt := Q } [some (.str (S l)), some (.int (st0 : Int)), some (.ref o), some (.int (p : Int)), y4, y5] H' := fun z => by
    refine ⟨_, rfl, ?_⟩
    rw [z] at he
    exact q p st' as' xs' H' he hsp hp kp tc ho' hS' hsub hnd'
  have hxl := hS'.len
  refine ⟨_, rfl, _, rfl, _, rfl, _, rfl, _, _, rfl, rfl, _, rfl, _, rfl, (by rw [S_len]; exact le_size (by omega)), rfl, _, rfl, ?_⟩
  rw [cut1 hp, show decide (V.str (S ((l.drop p).take 1)) = V.str ")") = ((l.drop p).head? == some 41) from take1_eq]
  by_cases c1 : (l.drop p).head? = some 41
  case neg =>
    rw [show ((l.drop p).head? == some 41) = false by simpa using c1]
    exact iteF (done (closeS_stop fun z => c1 z.1))
  rw [show ((l.drop p).head? == some 41) = true by simpa using c1]
  refine iteT ⟨_, rfl, _, _, rfl, .inl (SqL.of ho'), _, _, rfl, rfl, _, rfl, ?_⟩
  rw [List.length_reverse, hxl]
  by_cases c2 : 1 < st'.length
  case neg =>
    rw [decide_eq_false (by omega)]
    exact iteF (done (closeS_stop fun z => c2 z.2.1))
  rw [decide_eq_true (by omega : (1 : Int) < (st'.length : Int))]
  match st', c2, hS', he, h12', hlen', done with
  | (b, ps) :: (c, qs) :: st2, c2, hS', he, h12', hlen', done =>
  have hS1 := hS'
  simp only [SR] at hS1
  obtain ⟨a1, p1, vs1, as1, r1, rfl, rfl, g1, g2, g3, a2, p2, vs2, as2, r2, rfl, rfl, g4, g5, g6, g7⟩ := hS1
  have hv1 := g3.len
  have hv2 := g6.len
  refine iteT ⟨_, rfl, 1, rfl, _, _, _, _, rfl, rfl, SqL.of ho', (by rw [List.reverse_cons]; exact atI_last _ _), _, _, _, _, rfl, rfl, SqL.of g1, rfl, _, _, rfl, .inl (SqL.of g2), _, _, rfl, rfl, _, rfl, ?_⟩
  rw [hv1]
  by_cases c3 : 1 < ps.length
  case neg =>
    rw [decide_eq_false (by omega)]
    exact done (closeS_stop fun z => c3 z.2.2)
  rw [decide_eq_true (by omega : (1 : Int) < (ps.length : Int))]
  have hpl : p < l.length := by
    by_cases z : p < l.length
    · exact z
    · rw [List.drop_eq_nil_of_le (by omega)] at c1
      cases c1
  have ed : l.drop p = 41 :: l.drop (p + 1) := by
    rw [List.drop_eq_getElem_cons hpl] at c1 ⊢
    simp only [List.head?_cons, Option.some.injEq] at c1
    rw [c1]
  rw [ed, closeS_go c3] at he
  have hl1 : ps.length ≤ 100000 + p := hlen' (b, ps) (by simp)
  have hl2 : qs.length ≤ 100000 + p := hlen' (c, qs) (by simp)
  -- the addresses are apart
  have nd := hnd'
  simp only [List.nodup_cons, List.mem_cons, not_or] at nd
  obtain ⟨⟨n1, n2, n3, n4, n5⟩, ⟨m1, m2, m3, m4⟩, ⟨k2, k3, k4⟩, ⟨j2, j3⟩, j4, j5⟩ := nd
  refine ⟨_, fun σ' H' h => h, ?_⟩
  have er : (V.ref a1 :: V.ref a2 :: r2).reverse = (V.ref a2 :: r2).reverse ++ [V.ref a1] := List.reverse_cons
  refine ⟨_, rfl, .inl ⟨rfl, _, SqL.of ho'⟩, o, _, .ref a1, rfl, rfl, ho', (by rw [er]; simp), ?_⟩
  rw [er, List.dropLast_concat]
  have k1 : Kp H' (upd H' o (.lst (V.ref a2 :: r2).reverse)) := kp_lst ho'
  have u1 : ∀ a u, a ≠ o → H' a = some u → upd H' o (.lst (V.ref a2 :: r2).reverse) a = some u := fun a u z h => by rw [upd_ne z]; exact h
  have uo : upd H' o (.lst (V.ref a2 :: r2).reverse) o = some (.lst (V.ref a2 :: r2).reverse) := upd_same
  have t1 : Tch H' (upd H' o (.lst (V.ref a2 :: r2).reverse)) (o :: as) := tch_upd (by simp)
  generalize upd H' o (.lst (V.ref a2 :: r2).reverse) = H1 at k1 u1 uo t1
  have f1 := u1 a1 _ (Ne.symm n1) g1
  have f2 := u1 p1 _ (Ne.symm n2) g2
  have f4 := u1 a2 _ (Ne.symm n3) g4
  have f5 := u1 p2 _ (Ne.symm n4) g5
  refine ⟨a1, _, rfl, SqL.of f1, rfl, _, _, rfl, _, _, rfl, rfl, ?_⟩
  refine ⟨_, rfl, 1, rfl, _, _, _, _, rfl, rfl, SqL.of uo, (by rw [List.reverse_cons]; exact atI_last _ _), _, _, _, _, rfl, rfl, SqL.of f4, rfl, .inl ⟨rfl, _, SqL.of f5⟩, _, rfl, _, rfl, _, _, rfl, .inl ⟨SqL.of f2, fun t2 ht2 => ⟨by show 2 ≤ sizeLine; decide, fun t3 ht3 => ?_⟩⟩⟩
  have s2 : Same H1 (upd H1 t2 (.tup vs1)) := same_new ht2
  have e2 : upd H1 t2 (.tup vs1) t2 = some (.tup vs1) := upd_same
  generalize upd H1 t2 (.tup vs1) = H2 at s2 e2 ht3
  have s3 := same_new (o := .tup [.str (kw b), .ref t2]) ht3
  have e3 : upd H2 t3 (.tup [.str (kw b), .ref t2]) t3 = some (.tup [.str (kw b), .ref t2]) := upd_same
  generalize upd H2 t3 (.tup [.str (kw b), .ref t2]) = H3 at s3 e3
  have s23 := s2.trans s3
  refine ⟨p2, vs2, _, rfl, rfl, s23 _ _ f5, Nat.lt_of_le_of_lt (by omega : vs2.length ≤ 250000) (by decide), ?_⟩
  have k4' : Kp H3 (upd H3 p2 (.lst (vs2 ++ [.ref t3]))) := kp_lst (s23 _ _ f5)
  have u4 : ∀ a u, a ≠ p2 → H3 a = some u → upd H3 p2 (.lst (vs2 ++ [.ref t3])) a = some u := fun a u z h => by rw [upd_ne z]; exact h
  have up : upd H3 p2 (.lst (vs2 ++ [.ref t3])) p2 = some (.lst (vs2 ++ [.ref t3])) := upd_same
  have t4 : Tch H3 (upd H3 p2 (.lst (vs2 ++ [.ref t3]))) (o :: as) := tch_upd (by simp [hsub p2 (by simp)])
  generalize upd H3 p2 (.lst (vs2 ++ [.ref t3])) = H4 at k4' u4 up t4
  have kAll : Kp H' H4 := k1.trans (s23.kp.trans k4')
  have tAll : Tch H' H4 (o :: as) := (t1.trans (s23.tch (o :: as)) fun _ z => z).trans t4 fun _ z => z
  refine ⟨_, rfl, _, _, rfl, rfl, l.length - (p + 1), by omega, p + 1, (c, qs ++ [.br b ps]) :: st2, a2 :: p2 :: as2, V.ref a2 :: r2, _, _, rfl, rfl, by omega, by omega, he, kp.trans kAll, tc.trans tAll fun _ z => z, ?_, ?_, ?_, ?_, ?_, ?_⟩
  · exact u4 _ _ n4 (s23 _ _ uo)
  · simp only [SR]
    refine ⟨a2, p2, _, as2, r2, rfl, rfl, u4 _ _ j2 (s23 _ _ f4), up, ?_, ?_⟩
    · refine (kAll.drs g6).app (Drs.one ?_)
      simp only [Dr]
      exact ⟨t3, t2, vs1, rfl, k4'.tup (SqT.of e3), (s3.kp.trans k4').tup (SqT.of e2), kAll.drs g3⟩
    · refine g7.keep kAll fun a ha u h => ?_
      refine u4 a u (fun z => ?_) (s23 _ _ (u1 a u (fun z => ?_) h))
      · subst z
        exact j4 ha
      · subst z
        exact n5 ha
  · intro a ha
    exact hsub a (by simp only [List.mem_cons] at ha ⊢; rcases ha with h | h | h <;> simp [h])
  · simp only [List.nodup_cons, List.mem_cons, not_or]
    exact ⟨⟨n3, n4, n5⟩, ⟨j2, j3⟩, j4, j5⟩
  · simp only [List.length_cons] at h12' ⊢
    omega
  · intro e hm
    rcases List.mem_cons.mp hm with rfl | hm
    · simp
      omega
    · exact Nat.le_trans (hlen' e (by simp [hm])) (by omega)
end K9

set_option maxHeartbeats 4000000
namespace K9
open PySem PySem.Spec L2
theorem closeS_len (B : Nat) : ∀ (st : Stk) (r : List Nat), (∀ e ∈ st, e.2.length ≤ B) → st ≠ [] →
    (∀ e ∈ (closeS st r).1, e.2.length ≤ B + (r.length - (closeS st r).2.length)) ∧ (closeS st r).1.length ≤ st.length ∧ (closeS st r).2.length ≤ r.length ∧ (closeS st r).1 ≠ [] := by
  intro st r
  induction st, r using closeS.induct generalizing B with
  | case1 b ps c qs st r h ih =>
    intro hl _
    rw [closeS, if_pos h]
    obtain ⟨i1, i2, i3, i4⟩ := ih (B + 1) (fun e he => by
      rcases List.mem_cons.mp he with rfl | he
      · have := hl (c, qs) (by simp)
        simp
        exact this
      · exact Nat.le_trans (hl e (by simp [he])) (by omega)) (by simp)
    refine ⟨fun e he => ?_, ?_, ?_, i4⟩
    · have := i1 e he
      simp only [List.length_cons]
      omega
    · simp only [List.length_cons] at i2 ⊢
      omega
    · simp only [List.length_cons]
      omega
  | case2 b ps c qs st r h =>
    intro hl hn
    rw [closeS, if_neg h]
    exact ⟨fun e he => Nat.le_trans (hl e he) (by omega), Nat.le_refl _, Nat.le_refl _, hn⟩
  | case3 st r h =>
    intro hl hn
    have e : closeS st r = (st, r) := by
      unfold closeS
      split
      · next b ps c qs st' r' => exact (h b ps c qs st' r' rfl rfl).elim
      · rfl
    rw [e]
    exact ⟨fun e he => Nat.le_trans (hl e he) (by omega), Nat.le_refl _, Nat.le_refl _, hn⟩
theorem run_op {n : Nat} {st : Stk} {r : List Nat} (h : opens st r = true) : run (n + 1) st r = run n (openS st) r.tail := by rw [run, if_pos h]
theorem run_no {n : Nat} {st : Stk} {r : List Nat} (h : opens st r = false) (hb : boxAt r = none) : run (n + 1) st r = some none := by
  rw [run, if_neg (by rw [h]; decide), hb]
theorem run_bx {n : Nat} {st st' : Stk} {r r1 r' : List Nat} {d : D} (h : opens st r = false) (hb : boxAt r = some (d, r1)) (hc : closeS (pushS d st) r1 = (st', r')) :
    run (n + 1) st r = if r'.isEmpty then some (some st') else if isPre (sep (topB st')) r' then run n st' (r'.drop 3) else some none := by
  rw [run, if_neg (by rw [h]; decide), hb]
  simp only [hc]
theorem cut' {R G : Prop} (f : R → G) (r : R) : G := f r
/-- the text read with that outer word -/
def spRead (K : PySem.W.Frag) : Sp := fun vs H Q _ => ∃ (l : List Nat) (b : Bool) (out : Option Stk), vs = [.str (S l), .str (kw b)] ∧ l.length ≤ 100000 ∧ (∃ m, run m [(b, [])] l = some out) ∧
  (out = none → ∀ t (i : Int) H', Same H H' → SqT K H' t [.non, .int i] → Q (.ref t) H') ∧
  (∀ st, out = some st → ∃ d, Nf d ∧ BxA d ∧ st = [(outW d, outP d)] ∧ ∀ t v (i : Int) H', Same H H' → SqT K H' t [v, .int i] → Dr K H' d v → Q (.ref t) H')
abbrev s_read_as : Stmt := top 31
abbrev N_read_as : List Str := ["text", "outer", "boxes", "opened", "place", "box", "many", "word", "parts"]
theorem sc_read_as : FnScope N_read_as ["text", "outer"] (C8.fnScope s_read_as) := C8.fnScope_by (by decide +kernel)
theorem ok_read_as {P : Program} {w : World} {K : PySem.W.Frag} {mg : Str → Option Value} {base : Heap} (T : Tp0 w K mg) (F : D0 K mg "read_as" s_read_as ["text", "outer"])
    (c_is_small : C8.Cal P w K mg base 1 "is_small" (spSmall K) []) (c_all_boxes : C8.Cal P w K mg base 1 "all_boxes" (spAll K) []) (c_box_at : C8.Cal P w K mg base 2 "box_at" (spBoxAt K) [])
    (c_closed_at : C8.Cal P w K mg base 1 "closed_at" (spClosed K) []) (c_common : C8.Cal P w K mg base 1 "common" spCommon []) : C8.Cal P w K mg base 3 "read_as" (spRead K) [] := by
  refine F.ok sc_read_as (fun vs H Q E h => ?_) (fun f cdv A outer s H vs Q E hr h => ?_)
  · obtain ⟨_, _, _, rfl, _⟩ := h
    rfl
  obtain ⟨l, b0, out, rfl, hl, ⟨m0, hm0⟩, q0, q1⟩ := h
  refine ⟨_, (pss_cons (ps_par3 (i := 2) (j := 3) (l := 4) rfl sc_read_as.nd rfl rfl rfl (by decide) (by decide) (by decide) rfl rfl rfl (pa_cons (pe_c0 c_all_boxes hr (by omega) rfl) (pa_cons (pe_lst (pa_cons (pe_lst (pa_cons (pv 1) (pa_cons (pe_lst pa_nil) pa_nil))) pa_nil)) (pa_cons pe_int pa_nil))) (by rfl))
    (pss_cons (ps_while PassesOwn.never (pt_cmpR op_le (pv 4) (pe_callB call_len_str rfl T.len bo_len (pa_cons (pv 0) pa_nil)) (nomark _))
      (pss_cons (ps_if (PW.pt (pw_and (pt_cmpR op_eq (pe_slice sl_str (pv 0) (po_some (pv 4)) (po_some (pe_op op_add (pv 4) pe_int))) pe_str (nomark _)) (pw_and1 (pt_cmpR op_lt (pe_callB call_len_seq rfl T.len bo_len (pa_cons (pv 3) pa_nil)) (C8.pe_gc rfl T.MAX_DEPTH) (nomark _)))))
          (pss_cons (ps_expr (pe_bm PySem.F.plainAttrs_list PySem.F.slot_list_append PySem.F.type_list_append mt_append (pv 3) (pa_cons (pe_lst (pa_cons (pe_ix ix_kdict (C8.pe_gc rfl T.OTHER_WORD) (pe_ix (r := rIxL K) ix_list (pe_ix (r := rIxL K) ix_list (pv 3) (pe_un un_neg pe_int) (fun _ _ => rfl)) pe_int (fun _ _ => rfl)) (fun _ _ => rfl)) (pa_cons (pe_lst pa_nil) pa_nil))) pa_nil)))
            (pss_cons (ps_aug (i := 4) sc_read_as.nd rfl (Or.inl rfl) pe_int ip_add)
            (pss_one ps_continue)))
          pss_nil)
        (pss_cons (ps_asg (C8.pe_c c_box_at hr (by omega) rfl (pa_cons (pv 0) (pa_cons (pv 4) (pa_cons (pv 2) pa_nil)))) (pg_tup rfl (pgs_cons (pg_name (i := 5) sc_read_as.nd rfl (Or.inl rfl)) (pgs_cons (pg_name (i := 6) sc_read_as.nd rfl (Or.inl rfl)) pgs_nil))))
        (pss_cons (ps_aug (i := 4) sc_read_as.nd rfl (Or.inl rfl) (pv 6) ip_add)
        (pss_cons (ps_if (pt_cmpR op_isN (pv 5) pe_non (nomark _))
          (pss_one (ps_ret (pe_tup (pa_cons pe_non (pa_cons (pv 4) pa_nil)))))
          pss_nil)
        (pss_cons (ps_expr (pe_bm PySem.F.plainAttrs_list PySem.F.slot_list_append PySem.F.type_list_append mt_append (pe_ix (r := rIxL K) ix_list (pe_ix (r := rIxL K) ix_list (pv 3) (pe_un un_neg pe_int) (fun _ _ => rfl)) pe_int (fun _ _ => rfl)) (pa_cons (pv 5) pa_nil)))
        (pss_cons (ps_set (i := 4) sc_read_as.nd rfl (Or.inl rfl) (C8.pe_c c_closed_at hr (by omega) rfl (pa_cons (pv 0) (pa_cons (pv 4) (pa_cons (pv 3) pa_nil)))))
        (pss_cons (ps_if (pt_cmpR op_eq (pv 4) (pe_callB call_len_str rfl T.len bo_len (pa_cons (pv 0) pa_nil)) (nomark _))
          (pss_one ps_break)
          pss_nil)
        (pss_cons (ps_set (i := 6) sc_read_as.nd rfl (Or.inl rfl) (C8.pe_c c_common hr (by omega) rfl (pa_cons (pv 0) (pa_cons (pv 4) (pa_cons (pe_ix ix_kdict (C8.pe_gc rfl T.SIGNS) (pe_ix (r := rIxL K) ix_list (pe_ix (r := rIxL K) ix_list (pv 3) (pe_un un_neg pe_int) (fun _ _ => rfl)) pe_int (fun _ _ => rfl)) (fun _ _ => rfl)) pa_nil)))))
        (pss_cons (ps_aug (i := 4) sc_read_as.nd rfl (Or.inl rfl) (pv 6) ip_add)
        (pss_one (ps_if (pt_cmpR op_lt (pv 6) (pe_callB call_len_str rfl T.len bo_len (pa_cons (pe_ix ix_kdict (C8.pe_gc rfl T.SIGNS) (pe_ix (r := rIxL K) ix_list (pe_ix (r := rIxL K) ix_list (pv 3) (pe_un un_neg pe_int) (fun _ _ => rfl)) pe_int (fun _ _ => rfl)) (fun _ _ => rfl)) pa_nil)) (nomark _))
          (pss_one (ps_ret (pe_tup (pa_cons pe_non (pa_cons (pv 4) pa_nil)))))
          pss_nil))))))))))))
    (pss_cons (ps_asg (pe_ix (r := rIxL K) ix_list (pv 3) (pe_un un_neg pe_int) (fun _ _ => rfl)) (pg_unl rfl (pgs_cons (pg_name (i := 7) sc_read_as.nd rfl (Or.inl rfl)) (pgs_cons (pg_name (i := 8) sc_read_as.nd rfl (Or.inl rfl)) pgs_nil))))
    (pss_cons (ps_if (PW.pt (pw_or (pt_cmpR op_gt (pe_callB call_len_seq rfl T.len bo_len (pa_cons (pv 3) pa_nil)) pe_int (nomark _)) (pw_or1 (PW.pt (pw_and (pt_cmpR op_eq (pe_callB call_len_seq rfl T.len bo_len (pa_cons (pv 8) pa_nil)) pe_int (nomark _)) (pw_and1 (pt_not (pt_val (C8.pe_c c_is_small hr (by omega) rfl (pa_cons (pe_ix (r := rIxL K) ix_list (pv 8) pe_int (fun _ _ => rfl)) pa_nil))))))))))
      (pss_one (ps_ret (pe_tup (pa_cons pe_non (pa_cons (pv 4) pa_nil)))))
      pss_nil)
    (pss_one (ps_ret (pe_tup (pa_cons (pe_ifExp (pt_cmpR op_eq (pe_callB call_len_seq rfl T.len bo_len (pa_cons (pv 8) pa_nil)) pe_int (nomark _)) (pe_ix (r := rIxL K) ix_list (pv 8) pe_int (fun _ _ => rfl)) (pe_tup (pa_cons (pv 7) (pa_cons (pe_callTy call_tuple_of rfl T.tuple bo_tuple (pa_cons (pv 8) pa_nil)) pa_nil)))) (pa_cons (pv 4) pa_nil))))))))), ?_⟩
  refine ⟨rfl, fun bo bxs H1 s1 hbo hbn hbx => ?_⟩
  refine ⟨_, rfl, Nat.zero_le _, fun p1 hp1 => ⟨by show 2 ≤ sizeLine; decide, fun c1 hc1 => ⟨by show 1 ≤ sizeLine; decide, fun o ho => ?_⟩⟩⟩
  have s2 : Same H1 (upd H1 p1 (.lst [])) := same_new hp1
  have e2 : upd H1 p1 (.lst []) p1 = some (.lst []) := upd_same
  generalize upd H1 p1 (.lst []) = H2 at s2 e2 hc1 ho
  have s3 : Same H2 (upd H2 c1 (.lst [.str (kw b0), .ref p1])) := same_new hc1
  have e3 : upd H2 c1 (.lst [.str (kw b0), .ref p1]) c1 = some (.lst [.str (kw b0), .ref p1]) := upd_same
  generalize upd H2 c1 (.lst [.str (kw b0), .ref p1]) = H3 at s3 e3 ho
  have s4 : Same H3 (upd H3 o (.lst [.ref c1])) := same_new ho
  have e4 : upd H3 o (.lst [.ref c1]) o = some (.lst [.ref c1]) := upd_same
  generalize upd H3 o (.lst [.ref c1]) = H4 at s4 e4
  have sAll : Same H H4 := s1.trans (s2.trans (s3.trans s4))
  refine ⟨_, _, _, rfl, fun n σ H' => ∃ (p : Nat) (st : Stk) (as : List Addr) (xs : List V) (k : Nat) (y5 y6 y7 y8 : Option V), n = l.length - p ∧ σ = [some (.str (S l)), some (.str (kw b0)), some (.ref bo), some (.ref o), some (.int (p : Int)), y5, y6, y7, y8] ∧ p ≤ l.length ∧ run k st (l.drop p) = some out ∧ Same H H' ∧
    H' bo = some (.lst bxs) ∧ Drs K H' (bxl BX) bxs ∧ H' o = some (.lst xs.reverse) ∧ SR K H' st as xs ∧ (o :: as).Nodup ∧ (∀ a ∈ bo :: o :: as, H a = none) ∧ bo ∉ o :: as ∧ st.length ≤ 12 ∧ st ≠ [] ∧ (∀ e ∈ st, e.2.length ≤ p), ⟨_, 0, [(b0, [])], [c1, p1], [.ref c1], m0, _, _, _, _, rfl, rfl, Nat.zero_le _, by simpa using hm0, sAll, (s2.trans (s3.trans s4)) _ _ hbo, (s2.trans (s3.trans s4)).drs hbx, e4, ?_, ?_, ?_, ?_, by simp, by simp, by simp⟩, ?_⟩
  · simp only [SR]
    exact ⟨c1, p1, [], [], [], rfl, rfl, s4 _ _ e3, (s3.trans s4) _ _ e2, by simp [Drs], rfl, rfl⟩
  · have n1 : c1 ≠ p1 := fun z => by
      subst z
      rw [e2] at hc1
      cases hc1
    have n2 : o ≠ c1 := fun z => by
      subst z
      rw [e3] at ho
      cases ho
    have n3 : o ≠ p1 := fun z => by
      subst z
      rw [s3 _ _ e2] at ho
      cases ho
    simp [n1, n2, n3]
  · intro a ha
    simp only [List.mem_cons, List.not_mem_nil, or_false] at ha
    rcases ha with rfl | rfl | rfl | rfl
    · exact hbn
    · exact (s1.trans (s2.trans s3)).none ho
    · exact (s1.trans s2).none hc1
    · exact s1.none hp1
  · have n1 : bo ≠ o := fun z => by
      subst z
      rw [(s2.trans s3) _ _ hbo] at ho
      cases ho
    have n2 : bo ≠ c1 := fun z => by
      subst z
      rw [s2 _ _ hbo] at hc1
      cases hc1
    have n3 : bo ≠ p1 := fun z => by
      subst z
      rw [hbo] at hp1
      cases hp1
    simp [n1, n2, n3]
  rintro n σ H' ⟨p, st, as, xs, k, y5, y6, y7, y8, rfl, rfl, hp, hk, sH, hbo', hbx', ho', hS, hnd, hnew, hbn', h12, hne, hlen⟩
  refine ⟨_, rfl, _, rfl, _, rfl, (by rw [S_len]; exact le_size (by omega)), _, _, rfl, rfl, _, rfl, ?_⟩
  rw [S_len, decide_eq_true (by omega : (p : Int) ≤ (l.length : Int))]
  refine ⟨_, fun σ' H' h => h, ?_⟩
  have hxl := hS.len
  obtain ⟨k, rfl⟩ : ∃ k', k = k' + 1 := by
    cases k with
    | zero => simp [run] at hk
    | succ k => exact ⟨k, rfl⟩
  obtain ⟨b, ps, st, rfl⟩ : ∃ b ps st', st = (b, ps) :: st' := by
    cases st with
    | nil => exact absurd rfl hne
    | cons e st => exact ⟨e.1, e.2, st, rfl⟩
  have hS1 := hS
  simp only [SR] at hS1
  obtain ⟨a1, p1', vs1, as1, r1, rfl, rfl, g1, g2, g3, g4⟩ := hS1
  have hv1 := g3.len
  have hps : ps.length ≤ p := hlen (b, ps) (by simp)
  have atl : atI (V.ref a1 :: r1).reverse (-1) = some (.ref a1) := by rw [List.reverse_cons]; exact atI_last _ _
  refine ⟨_, rfl, _, rfl, _, rfl, _, rfl, _, _, rfl, rfl, _, rfl, _, rfl, (by rw [S_len]; exact le_size (by omega)), rfl, _, rfl, ?_⟩
  rw [cut1 hp, show decide (V.str (S ((l.drop p).take 1)) = V.str "(") = ((l.drop p).head? == some 40) from take1_eq]
  by_cases c1 : opens ((b, ps) :: st) (l.drop p) = true
  · simp only [opens, Bool.and_eq_true] at c1
    obtain ⟨c1, c2⟩ := c1
    have c1' : opens ((b, ps) :: st) (l.drop p) = true := by simp only [opens, c1, c2, Bool.and_self]
    rw [run_op c1'] at hk
    simp only [openS] at hk
    rw [c1]
    have c2 := of_decide_eq_true c2
    have hpl : p < l.length := by
      by_cases z : p < l.length
      · exact z
      · rw [List.drop_eq_nil_of_le (by omega)] at c1
        cases c1
    refine iteT ⟨_, rfl, _, _, rfl, .inl (SqL.of ho'), _, _, rfl, rfl, _, rfl, ?_⟩
    rw [List.length_reverse, hxl, decide_eq_true (by omega : (((b, ps) :: st).length : Int) < 12)]
    refine iteT ⟨_, rfl, .inl ⟨rfl, _, SqL.of ho'⟩, _, rfl, 1, rfl, _, _, _, _, rfl, rfl, SqL.of ho', atl, _, _, _, _, rfl, rfl, SqL.of g1, rfl, _, _, _, rfl, rfl, T.other b, Nat.zero_le _, fun p2 hp2 => ⟨by show 2 ≤ sizeLine; decide, fun c2' hc2' => ?_⟩⟩
    have s5 : Same H' (upd H' p2 (.lst [])) := same_new hp2
    have e5 : upd H' p2 (.lst []) p2 = some (.lst []) := upd_same
    generalize upd H' p2 (.lst []) = H5 at s5 e5 hc2'
    have s6 := same_new (o := .lst [.str (kw (!b)), .ref p2]) hc2'
    have e6 : upd H5 c2' (.lst [.str (kw (!b)), .ref p2]) c2' = some (.lst [.str (kw (!b)), .ref p2]) := upd_same
    generalize upd H5 c2' (.lst [.str (kw (!b)), .ref p2]) = H6 at s6 e6
    have s56 := s5.trans s6
    refine ⟨o, _, _, rfl, rfl, s56 _ _ ho', Nat.lt_of_le_of_lt (by simp only [List.length_reverse] at hxl ⊢; simp only [List.length_cons] at hxl c2 ⊢; omega : _ ≤ 100000) (by decide), ?_⟩
    refine ⟨_, rfl, _, _, rfl, rfl, ?_⟩
    have k7 : Kp H6 (upd H6 o (.lst ((V.ref a1 :: r1).reverse ++ [.ref c2']))) := kp_lst (s56 _ _ ho')
    have u7 : ∀ a u, a ≠ o → H6 a = some u → upd H6 o (.lst ((V.ref a1 :: r1).reverse ++ [.ref c2'])) a = some u := fun a u z h => by rw [upd_ne z]; exact h
    have e7 : upd H6 o (.lst ((V.ref a1 :: r1).reverse ++ [.ref c2'])) o = some (.lst (V.ref c2' :: V.ref a1 :: r1).reverse) := by rw [upd_same, List.reverse_cons (a := V.ref c2')]
    have sH7 : Same H (upd H6 o (.lst ((V.ref a1 :: r1).reverse ++ [.ref c2']))) := (sH.trans s56).mut (hnew o (by simp))
    generalize upd H6 o (.lst ((V.ref a1 :: r1).reverse ++ [.ref c2'])) = H7 at k7 u7 e7 sH7
    have hp2n : ∀ a u, H' a = some u → a ≠ p2 := fun a u h z => by
      subst z
      rw [h] at hp2
      cases hp2
    have hc2n : ∀ a u, H' a = some u → a ≠ c2' := fun a u h z => by
      subst z
      rw [s5 _ _ h] at hc2'
      cases hc2'
    have hcp : c2' ≠ p2 := fun z => by
      subst z
      rw [e5] at hc2'
      cases hc2'
    have hop2 := hp2n _ _ ho'
    have hoc2 := hc2n _ _ ho'
    have hbop : bo ≠ o := fun z => hbn' (by simp [z])
    refine ⟨l.length - (p + 1), by omega, p + 1, (!b, []) :: (b, ps) :: st, c2' :: p2 :: a1 :: p1' :: as1, V.ref c2' :: V.ref a1 :: r1, k, _, _, _, _, rfl, rfl, by omega, ?_, sH7, u7 _ _ hbop (s56 _ _ hbo'), (s56.kp.trans k7).drs hbx', e7, ?_, ?_, ?_, ?_, ?_, by simp, ?_⟩
    · rw [List.tail_drop] at hk
      exact hk
    · simp only [SR]
      refine ⟨c2', p2, [], _, _, rfl, rfl, u7 _ _ (Ne.symm hoc2) e6, u7 _ _ (Ne.symm hop2) (s6 _ _ e5), by simp [Drs], ?_⟩
      have hk2 := hS.keep (s56.kp.trans k7) (fun a ha u h => u7 a u (fun z => by
        subst z
        simp only [List.nodup_cons] at hnd
        exact hnd.1 ha) (s56 _ _ h))
      simp only [SR] at hk2
      exact hk2
    · have f1 : ∀ a ∈ a1 :: p1' :: as1, a ≠ c2' ∧ a ≠ p2 := fun a ha => by
        obtain ⟨ls, h⟩ := hS.has a ha
        exact ⟨hc2n _ _ h, hp2n _ _ h⟩
      rw [List.nodup_cons] at hnd ⊢
      rw [List.nodup_cons, List.nodup_cons]
      refine ⟨?_, ?_, ?_, hnd.2⟩
      · intro z
        rcases List.mem_cons.mp z with z | z
        · exact hoc2 z
        · rcases List.mem_cons.mp z with z | z
          · exact hop2 z
          · exact hnd.1 z
      · intro z
        rcases List.mem_cons.mp z with z | z
        · exact hcp z
        · exact (f1 _ z).1 rfl
      · intro z
        exact (f1 _ z).2 rfl
    · intro a ha
      simp only [List.mem_cons] at ha
      rcases ha with rfl | rfl | rfl | rfl | ha
      · exact hnew _ (by simp)
      · exact hnew _ (by simp)
      · exact (sH.trans s5).none hc2'
      · exact sH.none hp2
      · exact hnew a (by simp only [List.mem_cons]; exact .inr (.inr ha))
    · intro z
      simp only [List.mem_cons] at z
      rcases z with z | z | z | z
      · exact hbop z
      · exact hc2n _ _ hbo' z
      · exact hp2n _ _ hbo' z
      · exact hbn' (by simp only [List.mem_cons]; exact .inr z)
    · simp only [List.length_cons] at c2 ⊢
      omega
    · intro e he
      rcases List.mem_cons.mp he with rfl | he
      · simp
      · exact Nat.le_trans (hlen e he) (by omega)
  · have c1f : opens ((b, ps) :: st) (l.drop p) = false := by simpa using c1
    have c3 : (l.drop p).head? = some 40 → decide ((((V.ref a1 :: r1).reverse.length : Nat) : Int) < 12) = false := fun c2 => by
      have c3 : ¬ ((b, ps) :: st).length < 12 := fun z => by
        simp only [opens, c2, beq_self_eq_true, Bool.true_and, decide_eq_false_iff_not] at c1f
        exact c1f z
      rw [List.length_reverse, hxl, decide_eq_false (by omega : ¬ (((b, ps) :: st).length : Int) < 12)]
    have c4 : (l.drop p).head? = some 40 → ((l.drop p).head? == some 40) = true := fun c2 => by simpa using c2
    have c5 : ¬ (l.drop p).head? = some 40 → ((l.drop p).head? == some 40) = false := fun c2 => by simpa using c2
    apply cut'
    · intro rest
      by_cases c2 : (l.drop p).head? = some 40
      · rw [c4 c2]
        refine iteT ⟨_, rfl, _, _, rfl, .inl (SqL.of ho'), _, _, rfl, rfl, _, rfl, ?_⟩
        rw [c3 c2]
        exact iteF rest
      · rw [c5 c2]
        exact iteF rest
    refine ⟨_, rfl, _, rfl, _, rfl, l, p, bo, bxs, rfl, hp, hl, hbo', hbx', fun i j x t H5 ok hb hpn s5 hx ht => ?_, fun m t H5 hb s5 ht => ?_⟩
    · have bl := btxt_len ok
      refine ⟨t, _, rfl, ht, rfl, _, _, rfl, _, _, rfl, rfl, ?_⟩
      obtain ⟨xa, rfl⟩ := hx.ref
      refine ⟨_, rfl, _, rfl, _, _, rfl, rfl, ?_⟩
      refine ⟨_, rfl, rfl, _, rfl, iteF ?_⟩
      have ho5 := s5 _ _ ho'
      have g25 := s5 _ _ g2
      refine ⟨_, rfl, 1, rfl, _, _, _, _, rfl, rfl, SqL.of ho5, atl, _, _, _, _, rfl, rfl, SqL.of (s5 _ _ g1), rfl, .inl ⟨rfl, _, SqL.of g25⟩, _, rfl, p1', vs1, _, rfl, rfl, g25, Nat.lt_of_le_of_lt (by omega : vs1.length ≤ 100000) (by decide), ?_⟩
      have k6 : Kp H5 (upd H5 p1' (.lst (vs1 ++ [.ref xa]))) := kp_lst g25
      have u6 : ∀ a u, a ≠ p1' → H5 a = some u → upd H5 p1' (.lst (vs1 ++ [.ref xa])) a = some u := fun a u z h => by rw [upd_ne z]; exact h
      have e6 : upd H5 p1' (.lst (vs1 ++ [.ref xa])) p1' = some (.lst (vs1 ++ [.ref xa])) := upd_same
      have sH6 : Same H (upd H5 p1' (.lst (vs1 ++ [.ref xa]))) := (sH.trans s5).mut (hnew p1' (by simp))
      generalize upd H5 p1' (.lst (vs1 ++ [.ref xa])) = H6 at k6 u6 e6 sH6
      have nd := hnd
      simp only [List.nodup_cons, List.mem_cons, not_or] at nd
      obtain ⟨⟨n1, n2, n3⟩, ⟨m1, m2⟩, k2, k3⟩ := nd
      have hbp : bo ≠ p1' := fun z => hbn' (by simp [z])
      have hk56 := s5.kp.trans k6
      have ho6 := u6 _ _ n2 ho5
      have hS6 : SR K H6 ((b, ps ++ [.bx i j]) :: st) (a1 :: p1' :: as1) (.ref a1 :: r1) := by
        simp only [SR]
        refine ⟨a1, p1', _, as1, r1, rfl, rfl, u6 _ _ m1 (s5 _ _ g1), e6, (hk56.drs g3).app (Drs.one (k6.dr hx)), ?_⟩
        refine g4.keep hk56 fun a ha u h => u6 a u (fun z => ?_) (s5 _ _ h)
        subst z
        exact k2 ha
      have hlen6 : ∀ e ∈ (b, ps ++ [.bx i j]) :: st, e.2.length ≤ p + (btxt i j).length := fun e he => by
        rcases List.mem_cons.mp he with rfl | he
        · simp
          omega
        · exact Nat.le_trans (hlen e (by simp [he])) (by omega)
      obtain ⟨z1, z2, z3, z4⟩ := closeS_len (p + (btxt i j).length) ((b, ps ++ [.bx i j]) :: st) (l.drop (p + (btxt i j).length)) hlen6 (by simp)
      refine ⟨_, rfl, _, rfl, _, rfl, l, p + (btxt i j).length, o, (b, ps ++ [.bx i j]) :: st, _, _, by push_cast; rfl, hpn, hl, ho6, hS6, hnd, (by simp only [List.length_cons] at h12 ⊢; exact h12), fun e he => Nat.le_trans (hlen6 e he) (by omega), fun s' st' as' xs' H7 hc hss hsl kp tc ho7 hS7 hsub hnd7 => ?_⟩
      rw [run_bx c1f hb hc] at hk
      rw [hc] at z1 z2 z3 z4
      simp only [List.length_drop] at z1 z2 z3 z4
      have sH7 : Same H H7 := Tch.same sH6 tc fun a ha => hnew a (by simp only [List.mem_cons] at ha ⊢; rcases ha with h | h | h | h <;> simp [h])
      have hbo7 : H7 bo = some (.lst bxs) := tc _ _ (u6 _ _ hbp (s5 _ _ hbo')) hbn'
      have hbx7 := (hk56.trans kp).drs hbx'
      obtain ⟨b', ps', st', rfl⟩ : ∃ b ps st'', st' = (b, ps) :: st'' := by
        cases st' with
        | nil => exact absurd rfl z4
        | cons e st => exact ⟨e.1, e.2, st, rfl⟩
      have hS1 := hS7
      simp only [SR] at hS1
      obtain ⟨a2, p2, vs2, as2, r2, rfl, rfl, f1, f2, f3, f4⟩ := hS1
      have hv2 := f3.len
      have hxl7 := hS7.len
      have atl7 : atI (V.ref a2 :: r2).reverse (-1) = some (.ref a2) := by rw [List.reverse_cons]; exact atI_last _ _
      refine ⟨_, rfl, _, rfl, _, rfl, (by rw [S_len]; exact le_size (by omega)), rfl, _, rfl, ?_⟩
      rw [S_len]
      by_cases ce : s' = l.length
      · -- at the end
        rw [decide_eq_true (by rw [ce])]
        rw [if_pos (by simp [ce])] at hk
        cases hk
        obtain ⟨d, hn, hb', est, q2⟩ := q1 _ rfl
        cases est
        refine iteT ?_
        refine ⟨_, rfl, 1, rfl, _, _, _, _, rfl, rfl, SqL.of ho7, atl7, a2, _, rfl, SqL.of f1, rfl, _, _, rfl, _, _, rfl, rfl, ?_⟩
        refine ⟨_, rfl, _, _, rfl, .inl (SqL.of ho7), _, _, rfl, rfl, _, rfl, ?_⟩
        rw [List.length_reverse, hxl7, decide_eq_false (by simp : ¬ (1 : Int) < (([(outW d, outP d)] : Stk).length : Int))]
        cases d with
        | bx j1 k1 =>
          simp only [outP, List.length_cons, List.length_nil] at hv2
          simp only [outP, Drs] at f3
          obtain ⟨v0, r0, rfl, f5, rfl⟩ := f3
          refine iteF ⟨_, rfl, _, _, rfl, .inl (SqL.of f2), rfl, _, rfl, iteT ?_⟩
          refine ⟨_, rfl, _, _, _, _, rfl, rfl, SqL.of f2, rfl, v0, .bx j1 k1, rfl, f5, hb', fun H8 s8 => ⟨_, rfl, iteF ?_⟩⟩
          refine ⟨_, rfl, _, _, rfl, .inl (SqL.of (s8 _ _ f2)), rfl, _, rfl, iteT ?_⟩
          refine ⟨_, rfl, _, _, _, _, rfl, rfl, SqL.of (s8 _ _ f2), rfl, _, rfl, by show 2 ≤ sizeLine; decide, fun t2 ht2 => ?_⟩
          have s9 := same_new (o := .tup [v0, .int (s' : Int)]) ht2
          exact q2 _ v0 _ _ (sH7.trans (s8.trans s9)) (SqT.of upd_same) (s9.dr (s8.dr f5))
        | br c qs =>
          simp only [Nf] at hn
          simp only [outP] at hv2 f3
          refine iteF ⟨_, rfl, _, _, rfl, .inl (SqL.of f2), rfl, _, rfl, ?_⟩
          rw [decide_eq_false (by simp only [V.int.injEq]; omega)]
          refine iteF (iteF ?_)
          refine ⟨_, rfl, _, _, rfl, .inl (SqL.of f2), rfl, _, rfl, ?_⟩
          rw [decide_eq_false (by simp only [V.int.injEq]; omega)]
          refine iteF ⟨_, rfl, _, rfl, _, _, rfl, .inl ⟨SqL.of f2, fun t2 ht2 => ⟨by show 2 ≤ sizeLine; decide, fun t3 ht3 => ?_⟩⟩⟩
          have s8 : Same H7 (upd H7 t2 (.tup vs2)) := same_new ht2
          have s9 := same_new (o := .tup [.str (kw c), .ref t2]) ht3
          refine ⟨_, rfl, by show 2 ≤ sizeLine; decide, fun t4 ht4 => ?_⟩
          have s10 := same_new (o := .tup [.ref t3, .int (s' : Int)]) ht4
          refine q2 _ (.ref t3) _ _ (sH7.trans (s8.trans (s9.trans s10))) (SqT.of upd_same) ?_
          simp only [Dr]
          exact ⟨t3, t2, vs2, rfl, s10.tup (SqT.of upd_same), (s9.trans s10).tup (SqT.of upd_same), (s8.trans (s9.trans s10)).drs f3⟩
      · rw [decide_eq_false (by simp only [V.int.injEq]; omega)]
        rw [if_neg (by simp; omega)] at hk
        have hk' : (if isPre (sep b') (l.drop s') = true then run k ((b', ps') :: st') ((l.drop s').drop 3) else some none) = some out := hk
        clear hk
        have hk := hk'
        clear hk'
        have lc := lcp_le (l.drop s') (sep b')
        have lcL := lcp_leL (l.drop s') (sep b')
        rw [sep_len] at lc
        rw [List.length_drop] at lcL
        refine iteF ⟨_, rfl, _, rfl, _, rfl, 1, rfl, _, _, _, _, rfl, rfl, SqL.of ho7, atl7, _, _, _, _, rfl, rfl, SqL.of f1, rfl, _, _, _, rfl, rfl, T.sign b', l, sep b', s', rfl, hsl, hl, (by rw [sep_len]; omega), ?_⟩
        refine ⟨_, rfl, _, rfl, _, _, rfl, rfl, ?_⟩
        refine ⟨_, rfl, _, rfl, 1, rfl, _, _, _, _, rfl, rfl, SqL.of ho7, atl7, _, _, _, _, rfl, rfl, SqL.of f1, rfl, _, _, _, rfl, rfl, T.sign b', _, rfl, (by rw [S_len, sep_len]; decide), _, _, rfl, rfl, _, rfl, ?_⟩
        rw [S_len, sep_len]
        by_cases cp : isPre (sep b') (l.drop s') = true
        · rw [if_pos cp] at hk
          have lp := (lcp_pre _ _).mpr cp
          rw [sep_len] at lp
          rw [decide_eq_false (by omega)]
          refine iteF ⟨l.length - (s' + 3), by omega, s' + 3, (b', ps') :: st', _, _, k, _, _, _, _, rfl, by rw [lp]; rfl, by omega, ?_, sH7, hbo7, hbx7, ho7, hS7, hnd7, ?_, ?_, ?_, by simp, ?_⟩
          · rw [List.drop_drop] at hk
            exact hk
          · intro a ha
            rcases List.mem_cons.mp ha with rfl | ha
            · exact hnew _ (by simp)
            · rcases List.mem_cons.mp ha with rfl | ha
              · exact hnew _ (by simp)
              · exact hnew a (by simp only [List.mem_cons]; exact .inr (.inr (by simpa using hsub a ha)))
          · intro z
            rcases List.mem_cons.mp z with rfl | z
            · exact hbn' (by simp)
            · exact hbn' (List.mem_cons.mpr (.inr (hsub _ z)))
          · simp only [List.length_cons] at z2 h12 ⊢
            omega
          · intro e he
            have := z1 e he
            omega
        · rw [if_neg cp] at hk
          cases hk
          have lp : lcp (l.drop s') (sep b') < 3 := by
            by_cases z : lcp (l.drop s') (sep b') = 3
            · exact absurd ((lcp_pre _ _).mp (by rw [sep_len]; exact z)) cp
            · omega
          rw [decide_eq_true (by omega)]
          refine iteT ⟨_, rfl, by show 2 ≤ sizeLine; decide, fun t2 ht2 => ?_⟩
          exact q0 rfl t2 _ _ (sH7.trans (same_new ht2)) (SqT.of upd_same)
    · rw [run_no c1f hb] at hk
      cases hk
      refine ⟨t, _, rfl, ht, rfl, _, _, rfl, _, _, rfl, rfl, ?_⟩
      refine ⟨_, rfl, _, rfl, _, _, rfl, rfl, ?_⟩
      refine ⟨_, rfl, rfl, _, rfl, iteT ?_⟩
      refine ⟨_, rfl, by show 2 ≤ sizeLine; decide, fun t2 ht2 => ?_⟩
      exact q0 rfl t2 _ _ (sH.trans (s5.trans (same_new ht2))) (SqT.of upd_same)
end K9

set_option maxHeartbeats 4000000
namespace K9
open PySem PySem.Spec L2
theorem non_S (l : List Nat) : decide (V.str (S l) = V.str ("none" : Str)) = decide (l = codes "none") := by
  show decide (V.str (S l) = V.str (S (codes "none"))) = _
  rw [S_dec]
/-- the text of a drawing without needless brackets is read back as that drawing -/
def spParse (K : PySem.W.Frag) : Sp := fun vs H Q _ => ∃ (d : D) (l r : Nat), vs = [.str (S (txt d))] ∧ NfE d ∧ Tp d l r ∧ Ln d ∧ l + r ≤ 8 ∧ nb d ≤ 400 ∧ dep d ≤ 12 ∧ sz d ≤ 5000 ∧ ∀ v H', Same H H' → Dr K H' d v → Q v H'
abbrev s_parse_drawing : Stmt := top 32
abbrev N_parse_drawing : List Str := ["value", "drawing", "place", "further", "error"]
theorem sc_parse_drawing : FnScope N_parse_drawing ["value"] (C8.fnScope s_parse_drawing) := C8.fnScope_by (by decide +kernel)
theorem ok_parse_drawing {P : Program} {w : World} {K : PySem.W.Frag} {mg : Str → Option Value} {base : Heap} (T : Tp0 w K mg) (F : D0K K mg "parse_drawing" s_parse_drawing "value")
    (c_read_as : C8.Cal P w K mg base 3 "read_as" (spRead K) []) (c_common : C8.Cal P w K mg base 1 "common" spCommon []) (c_drawing_error : C8.Cal P w K mg base 20 "drawing_error" (spDErr K) []) : C8.Cal P w K mg base 40 "parse_drawing" (spParse K) [] ∧ CalK P w K mg base 40 "parse_drawing" "value" (spParse K) := by
  refine F.both (k := 39) sc_parse_drawing (fun vs H Q E h => ?_) (fun f cdv A outer s H vs Q E hr h => ?_)
  · obtain ⟨_, _, _, rfl, _⟩ := h
    rfl
  obtain ⟨d, l, r, rfl, hN, hT, hL, h8, h4, h12, hz, q⟩ := h
  refine ⟨_, (pss_cons (ps_if (pt_not (pt_val (pe_callB call_isi rfl T.isinstance bo_isinstance (pa_cons (pv 0) (pa_cons (pe_bltn (v := .ty "str") rfl T.str bo_str rfl) pa_nil)))))
      pss_never
      pss_nil)
    (pss_cons (ps_if (pt_cmpR op_eq (pv 0) pe_str (nomark _))
      (pss_one (ps_ret (C8.pe_gc rfl T.EMPTY)))
      pss_nil)
    (pss_cons (ps_asg (C8.pe_c c_read_as hr (by omega) rfl (pa_cons (pv 0) (pa_cons pe_str pa_nil))) (pg_tup rfl (pgs_cons (pg_name (i := 1) sc_parse_drawing.nd rfl (Or.inl rfl)) (pgs_cons (pg_name (i := 2) sc_parse_drawing.nd rfl (Or.inl rfl)) pgs_nil))))
    (pss_cons (ps_if (pt_cmpR op_isN (pv 1) pe_non (nomark _))
      (pss_cons (ps_asg (C8.pe_c c_read_as hr (by omega) rfl (pa_cons (pv 0) (pa_cons pe_str pa_nil))) (pg_tup rfl (pgs_cons (pg_name (i := 1) sc_parse_drawing.nd rfl (Or.inl rfl)) (pgs_cons (pg_name (i := 3) sc_parse_drawing.nd rfl (Or.inl rfl)) pgs_nil))))
        (pss_one (ps_set (i := 2) sc_parse_drawing.nd rfl (Or.inl rfl) (pe_callB (call_max3 rfl) rfl T.max bo_max (pa_cons (pv 2) (pa_cons (pv 3) (pa_cons (C8.pe_c c_common hr (by omega) rfl (pa_cons (pv 0) (pa_cons pe_int (pa_cons pe_str pa_nil)))) pa_nil)))))))
      pss_nil)
    (pss_cons (ps_if (pt_cmpR op_isN (pv 1) pe_non (nomark _))
      pss_never
      pss_nil)
    (pss_cons (ps_set (i := 4) sc_parse_drawing.nd rfl (Or.inl rfl) (C8.pe_c c_drawing_error hr (by omega) rfl (pa_cons (pv 1) pa_nil)))
    (pss_cons (ps_if (pt_cmpR op_notN (pv 4) pe_non (nomark _))
      pss_never
      pss_nil)
    (pss_one (ps_ret (pv 1)))))))))), ?_⟩
  have hB := Tp_BxA hT
  have tl := txt_len d hB
  refine ⟨_, rfl, _, _, _, _, true, rfl, .ty _, tyx_str, kSS, true, rfl, iteF ?_⟩
  refine ⟨_, rfl, rfl, _, rfl, ?_⟩
  rw [show decide (V.str (S (txt d)) = V.str "none") = decide (txt d = codes "none") from non_S _]
  by_cases he : isE d = true
  · have e := isE_iff.mp he
    subst e
    rw [txt_E0, decide_eq_true rfl]
    exact iteT (q _ _ (Same.refl H) T.drE)
  · have hN := hN.resolve_left fun z => he (isE_iff.mpr z)
    rw [decide_eq_false (txt_none hN hB h12)]
    refine iteF ?_
    have hdr : ∀ {v : V} {H1 : Hp}, Dr K H1 d v → decide (v = V.non) = false := fun h => by
      obtain ⟨a, rfl⟩ := h.ref
      rfl
    by_cases hw : outW d = true
    · have rw1 := read_whole hN hB h12
      rw [hw] at rw1
      obtain ⟨k, hk⟩ := rw1
      refine ⟨_, rfl, txt d, true, some [(true, outP d)], rfl, by omega, ⟨_, by simpa using hk 0⟩, (fun h => nomatch h), fun st e => ⟨d, hN, hB, by cases e; rw [hw], fun t v i H1 s1 ht hv => ?_⟩⟩
      refine ⟨t, _, rfl, ht, rfl, _, _, rfl, _, _, rfl, rfl, ?_⟩
      refine ⟨_, rfl, rfl, _, rfl, ?_⟩
      rw [hdr hv]
      refine iteF ⟨_, rfl, rfl, _, rfl, ?_⟩
      rw [hdr hv]
      refine iteF ⟨_, rfl, v, d, l, r, rfl, hv, hT, hL, h8, h4, h12, hz, fun H2 s2 => ?_⟩
      refine ⟨_, rfl, rfl, _, rfl, iteF ⟨_, rfl, q v H2 (s1.trans s2) (s2.dr hv)⟩⟩
    · have hw : outW d = false := by simpa using hw
      have rw1 := read_whole hN hB h12
      rw [hw] at rw1
      obtain ⟨k, hk⟩ := rw1
      have hro : ∃ k, ∀ n, run (n + k) [(true, [])] (txt d) = some none := by
        cases d with
        | bx i k => simp [outW] at hw
        | br b ps =>
          simp only [outW] at hw
          subst hw
          simp only [BxA] at hB
          exact read_other hN hB
      obtain ⟨k', hk'⟩ := hro
      refine ⟨_, rfl, txt d, true, none, rfl, by omega, ⟨_, by simpa using hk' 0⟩, fun _ t i H1 s1 ht => ?_, (fun st e => nomatch e)⟩
      refine ⟨t, _, rfl, ht, rfl, _, _, rfl, _, _, rfl, rfl, ?_⟩
      refine ⟨_, rfl, rfl, _, rfl, iteT ?_⟩
      refine ⟨_, rfl, txt d, false, some [(false, outP d)], rfl, by omega, ⟨_, by simpa using hk 0⟩, (fun h => nomatch h), fun st e => ⟨d, hN, hB, by cases e; rw [hw], fun t v i' H2 s2 ht hv => ?_⟩⟩
      refine ⟨t, _, rfl, ht, rfl, _, _, rfl, _, _, rfl, rfl, ?_⟩
      refine ⟨_, rfl, _, rfl, _, rfl, txt d, codes "none", 0, rfl, Nat.zero_le _, by omega, by decide, ?_⟩
      refine ⟨_, _, _, rfl, fun m => ?_⟩
      refine ⟨_, rfl, rfl, _, rfl, ?_⟩
      rw [hdr hv]
      refine iteF ⟨_, rfl, v, d, l, r, rfl, hv, hT, hL, h8, h4, h12, hz, fun H3 s3 => ?_⟩
      refine ⟨_, rfl, rfl, _, rfl, iteF ⟨_, rfl, q v H3 (s1.trans (s2.trans s3)) (s3.dr hv)⟩⟩
end K9

set_option maxHeartbeats 4000000
namespace K9
open PySem PySem.Spec L2
/-! ### the deck: any numbers may come of it; what may change -/
structure Kd where
  dk : Addr
  d0 : Addr
  d1 : Addr
def Dk (H : Hp) (t : Kd) : Prop := ∃ (xs0 xs1 : List Int) (a n : Int), H t.dk = some (.lst [.ref t.d0, .ref t.d1, .int a, .int n]) ∧ H t.d0 = some (.lst (xs0.map V.int)) ∧ H t.d1 = some (.lst (xs1.map V.int)) ∧ xs1 ≠ [] ∧ xs0.length ≤ 100 ∧ xs1.length ≤ 100 ∧ t.dk ≠ t.d0 ∧ t.dk ≠ t.d1 ∧ t.d0 ≠ t.d1
def DS (t : Kd) (H H' : Hp) : Prop := Tch H H' [t.dk, t.d0] ∧ Kp H H' ∧ Dk H' t
theorem Dk.same {H H' : Hp} {t : Kd} (h : Dk H t) (e : Same H H') : Dk H' t := by
  obtain ⟨xs0, xs1, a, n, h1, h2, h3, h4⟩ := h
  exact ⟨xs0, xs1, a, n, e _ _ h1, e _ _ h2, e _ _ h3, h4⟩
theorem DS.of {H H' : Hp} {t : Kd} (h : Dk H t) (e : Same H H') : DS t H H' := ⟨e.tch _, e.kp, h.same e⟩
theorem DS.refl {H : Hp} {t : Kd} (h : Dk H t) : DS t H H := DS.of h (Same.refl H)
theorem DS.trans {H H1 H2 : Hp} {t : Kd} (a : DS t H H1) (b : DS t H1 H2) : DS t H H2 := ⟨a.1.trans b.1 fun _ z => z, a.2.1.trans b.2.1, b.2.2⟩
theorem DS.same {H H1 H2 : Hp} {t : Kd} (a : DS t H H1) (b : Same H1 H2) : DS t H H2 := a.trans (DS.of a.2.2 b)
theorem DS.sk {H H1 H2 : Hp} {t : Kd} (h : Same H H1) (k : Dk H t) (b : DS t H1 H2) : DS t H H2 := (DS.of k h).trans b
theorem Dk.ne {H : Hp} {t : Kd} {p : Addr} (h : Dk H t) (n : H p = none) : p ≠ t.dk ∧ p ≠ t.d0 ∧ p ≠ t.d1 := by
  obtain ⟨xs0, xs1, a, m, h1, h2, h3, _⟩ := h
  refine ⟨fun z => ?_, fun z => ?_, fun z => ?_⟩
  · rw [z, h1] at n
    cases n
  · rw [z, h2] at n
    cases n
  · rw [z, h3] at n
    cases n
/-- an own list is written over -/
theorem DS.mut {H H' : Hp} {t : Kd} {p : Addr} {o : HO} (k : Dk H t) (a : DS t H H') (n : H p = none) : DS t H (upd H' p o) := by
  obtain ⟨n1, n2, n3⟩ := k.ne n
  obtain ⟨a1, a2, a3⟩ := a
  have hp : ∀ b u, H b = some u → b ≠ p := fun b u h z => by
    rw [z, n] at h
    cases h
  refine ⟨fun b u h m => ?_, fun b u h m => ?_, ?_⟩
  · rw [upd_ne (hp b u h)]
    exact a1 b u h m
  · rw [upd_ne (hp b u h)]
    exact a2 b u h m
  · obtain ⟨xs0, xs1, b, m, h1, h2, h3, h4⟩ := a3
    exact ⟨xs0, xs1, b, m, by rw [upd_ne n1.symm]; exact h1, by rw [upd_ne n2.symm]; exact h2, by rw [upd_ne n3.symm]; exact h3, h4⟩
/-- what is no part of the deck stays -/
theorem DS.keep {H H' : Hp} {t : Kd} {p : Addr} {o : HO} (a : DS t H H') (h : H p = some o) (n1 : p ≠ t.dk) (n2 : p ≠ t.d0) : H' p = some o := a.1 p o h (by simp [n1, n2])
theorem DS.none {H H' : Hp} {t : Kd} {p : Addr} (a : DS t H H') (h : H' p = none) : H p = none := by
  cases c : H p with
  | none => rfl
  | some o =>
    by_cases z : p ∈ [t.dk, t.d0]
    · obtain ⟨xs0, xs1, b, m, h1, h2, _⟩ := a.2.2
      simp only [List.mem_cons, List.not_mem_nil, or_false] at z
      rcases z with rfl | rfl
      · rw [h1] at h
        cases h
      · rw [h2] at h
        cases h
    · rw [a.1 p o c z] at h
      cases h
theorem DS.dr {K : PySem.W.Frag} {H H' : Hp} {t : Kd} (a : DS t H H') {d : D} {v : V} (h : Dr K H d v) : Dr K H' d v := a.2.1.dr h
theorem DS.drs {K : PySem.W.Frag} {H H' : Hp} {t : Kd} (a : DS t H H') {d : List D} {v : List V} (h : Drs K H d v) : Drs K H' d v := a.2.1.drs h
theorem dpi (K : PySem.W.Frag) (H : Hp) : ∀ xs : List Int, DpAll K H (xs.map V.int) (xs.map PyData.int)
  | [] => .nil
  | x :: xs => .cons (.int x) (dpi K H xs)
theorem lay_i : ∀ xs : List Int, PyData.canLayAll0 (xs.map PyData.int) = true ∧ PyData.depthAll (xs.map PyData.int) = 0
  | [] => by simp [PyData.canLayAll0, PyData.depthAll]
  | x :: xs => by
    obtain ⟨h1, h2⟩ := lay_i xs
    simp only [List.map_cons, PyData.canLayAll0, PyData.depthAll, PyData.canLay0, PyData.depth, h1, h2]
    simp
theorem sh_i (xs : List Int) : SeqAt.shaped (.list (xs.map PyData.int)) = true := by
  obtain ⟨h1, h2⟩ := lay_i xs
  have z : (PyData.list (xs.map PyData.int)).depth ≤ 64 := by
    simp only [PyData.depth]
    omega
  simp only [SeqAt.shaped, PyData.canLay0, h1, Bool.true_and, decide_eq_true_eq]
  exact z
theorem eqv_ni (ds : List PyData) : PyData.eqv (.list ds) (.list []) = ds.isEmpty := by
  cases ds <;> simp [PyData.eqv, PyData.eqvAll]
/-- any number below the size -/
def spDraw : Sp := fun vs H Q _ => ∃ (t : Kd) (n : Nat), vs = [.ref t.dk, .int (n : Int)] ∧ 1 ≤ n ∧ n ≤ 100000 ∧ Dk H t ∧ ∀ (r : Nat) H', r < n → DS t H H' → Q (.int (r : Int)) H'
theorem mod_nat {a : Int} {n : Nat} (h : 1 ≤ n) : ∃ r : Nat, a % (n : Int) = (r : Int) ∧ r < n := by
  have h1 := Int.emod_nonneg a (by omega : (n : Int) ≠ 0)
  have h2 := Int.emod_lt_of_pos a (by omega : (0 : Int) < (n : Int))
  exact ⟨(a % (n : Int)).toNat, by omega, by omega⟩
abbrev s_law_draw : Stmt := top 35
abbrev N_law_draw : List Str := ["_law_deck_here", "_law_size", "_law_cell", "_law_turn", "_law_mixed"]
theorem sc_law_draw : FnScope N_law_draw ["_law_deck_here", "_law_size"] (C8.fnScope s_law_draw) := C8.fnScope_by (by decide +kernel)
theorem ok_law_draw {P : Program} {w : World} {K : PySem.W.Frag} {mg : Str → Option Value} {base : Heap} (T : Tp0 w K mg) (F : D0 K mg "_law_draw" s_law_draw ["_law_deck_here", "_law_size"]) : C8.Cal P w K mg base 1 "_law_draw" spDraw [] := by
  refine F.ok sc_law_draw (fun vs H Q E h => ?_) (fun f cdv A outer s H vs Q E hr h => ?_)
  · obtain ⟨_, _, rfl, _⟩ := h
    rfl
  obtain ⟨t, n, rfl, hn, hn', hk, q⟩ := h
  refine ⟨_, (pss_cons (ps_if (pt_cmpR (op_neD hr.units) (pe_ix (r := rIxL K) ix_list (pv 0) pe_int (fun _ _ => rfl)) (pe_lst pa_nil) (nomark _))
      (pss_cons (ps_set (i := 2) sc_law_draw.nd rfl (Or.inl rfl) (pe_ix (r := rIxL K) ix_list (pe_ix (r := rIxL K) ix_list (pv 0) pe_int (fun _ _ => rfl)) pe_int (fun _ _ => rfl)))
        (pss_cons (ps_if (pt_cmpR op_lt (pv 2) (pv 1) (nomark _))
          (pss_one (ps_expr (pe_bm PySem.F.plainAttrs_list PySem.F.slot_list_pop PySem.F.type_list_pop mt_popAt (pe_ix (r := rIxL K) ix_list (pv 0) pe_int (fun _ _ => rfl)) (pa_cons pe_int pa_nil))))
          (pss_one (ps_asg (pe_op op_fdivN (pv 2) (pv 1)) (pg_sub (pe_ix (r := rIxL K) ix_list (pv 0) pe_int (fun _ _ => rfl)) pe_int set_list))))
        (pss_one (ps_ret (pe_op op_mod (pe_callTy call_int1 rfl T.int bo_int (pa_cons (pv 2) pa_nil)) (pv 1))))))
      pss_nil)
    (pss_cons (ps_asg (pe_op op_add (pe_ix (r := rIxL K) ix_list (pv 0) pe_int (fun _ _ => rfl)) pe_int) (pg_sub (pv 0) pe_int set_list))
    (pss_cons (ps_set (i := 3) sc_law_draw.nd rfl (Or.inl rfl) (pe_ix (r := rIxL K) ix_list (pv 0) pe_int (fun _ _ => rfl)))
    (pss_cons (ps_set (i := 2) sc_law_draw.nd rfl (Or.inl rfl) (pe_ix (r := rIxL K) ix_list (pe_ix (r := rIxL K) ix_list (pv 0) pe_int (fun _ _ => rfl)) (pe_op op_mod (pe_callTy call_int1 rfl T.int bo_int (pa_cons (pv 3) pa_nil)) (pe_callB call_len_seq rfl T.len bo_len (pa_cons (pe_ix (r := rIxL K) ix_list (pv 0) pe_int (fun _ _ => rfl)) pa_nil))) (fun _ _ => rfl)))
    (pss_cons (ps_set (i := 4) sc_law_draw.nd rfl (Or.inl rfl) (pe_op op_mod (pe_callTy call_int1 rfl T.int bo_int (pa_cons (pe_op op_add (pe_op op_add (pe_op op_mul (pv 2) pe_int) (pe_op op_mul (pe_ix (r := rIxL K) ix_list (pv 0) pe_int (fun _ _ => rfl)) pe_int)) (pe_op op_mul (pv 3) pe_int)) pa_nil)) pe_int))
    (pss_cons (ps_set (i := 4) sc_law_draw.nd rfl (Or.inl rfl) (pe_op op_mod (pe_callTy call_int1 rfl T.int bo_int (pa_cons (pe_op op_add (pe_op op_add (pe_op op_mul (pv 4) (pv 4)) (pe_op op_mul (pv 3) pe_int)) pe_int) pa_nil)) pe_int))
    (pss_cons (ps_set (i := 4) sc_law_draw.nd rfl (Or.inl rfl) (pe_op op_mod (pe_callTy call_int1 rfl T.int bo_int (pa_cons (pe_op op_add (pe_op op_add (pe_op op_mul (pv 4) (pv 4)) (pv 4)) (pv 2)) pa_nil)) pe_int))
    (pss_one (ps_ret (pe_op op_mod (pe_callTy call_int1 rfl T.int bo_int (pa_cons (pe_op op_fdivN (pv 4) pe_int) pa_nil)) (pv 1))))))))))), ?_⟩
  have hk0 := hk
  obtain ⟨xs0, xs1, a, m, h1, h2, h3, h4, hl0, hl1, e1, e2, e3⟩ := hk0
  refine ⟨_, rfl, _, _, _, _, rfl, rfl, SqL.of h1, rfl, Nat.zero_le _, fun l hl => ?_⟩
  have s1 : Same H (upd H l (.lst [])) := same_new hl
  have hl' : upd H l (.lst []) l = some (.lst []) := upd_same
  generalize upd H l (.lst []) = H1 at s1 hl'
  have g1 := s1 _ _ h1
  have g2 := s1 _ _ h2
  have g3 := s1 _ _ h3
  refine ⟨.list (xs0.map PyData.int), .list [], .lst (SqL.of g2) (dpi K H1 xs0), .lst (SqL.of hl') .nil, sh_i xs0, by decide, _, rfl, ?_⟩
  rw [eqv_ni]
  cases xs0 with
  | cons x xs =>
    obtain ⟨r, er, hr'⟩ := mod_nat (a := x) hn
    refine iteT ⟨_, rfl, _, _, _, _, rfl, rfl, SqL.of g1, rfl, _, _, _, _, rfl, rfl, SqL.of g2, at_of (j := 0) rfl rfl, ?_⟩
    refine ⟨_, rfl, _, rfl, _, _, rfl, rfl, _, rfl, ?_⟩
    -- what is answered behind it
    have fin : ∀ (ys : List Int) H2, ys.length ≤ 100 → H2 = upd H1 t.d0 (.lst (ys.map V.int)) → tRet (tOp (rI (fun _ j => 0 < j) fun i j => .int (i % j)) (tCB (fun xs H Q => (∃ i, xs = [.int i] ∧ Q (.int i) H) ∨ ∃ k, xs = [.bl k] ∧ Q (.int (if k then 1 else 0)) H) (tCons (tVar 2) tNil)) (tVar 1))
        { nx := fun _ H' => Q .non H', rt := Q } [some (.ref t.dk), some (.int (n : Int)), some (.int x), none, none] H2 := by
      intro ys H2 hy z
      refine ⟨_, rfl, .inl ⟨_, rfl, _, rfl, _, _, rfl, rfl, by omega, ?_⟩⟩
      show Q (.int (x % (n : Int))) H2
      rw [er]
      refine q r H2 hr' ((DS.of hk s1).trans ?_)
      subst z
      refine ⟨tch_upd (by simp), kp_lst g2, ys, xs1, a, m, ?_, upd_same, ?_, h4, hy, hl1, e1, e2, e3⟩
      · rw [upd_ne e1]
        exact g1
      · rw [upd_ne e3.symm]
        exact g3
    simp only [List.length_cons] at hl0
    by_cases c : x < (n : Int)
    · rw [decide_eq_true c]
      refine iteT ⟨_, rfl, _, _, _, _, rfl, rfl, SqL.of g1, rfl, .inl ⟨rfl, _, SqL.of g2⟩, t.d0, _, 0, 0, _, rfl, rfl, g2, by decide, by decide, by simp [seqIndex?], rfl, ?_⟩
      exact fin xs _ (by omega) rfl
    · rw [decide_eq_false c]
      refine iteF ⟨_, rfl, _, rfl, _, _, rfl, rfl, ⟨by omega, by omega⟩, _, rfl, _, _, _, _, rfl, rfl, SqL.of g1, rfl, t.d0, _, 0, 0, rfl, rfl, g2, by simp [ixN], ?_⟩
      exact fin (x.fdiv n :: xs) _ (by simp; omega) rfl
  | nil =>
    refine iteF ⟨_, rfl, _, _, _, _, rfl, rfl, SqL.of g1, rfl, _, _, rfl, rfl, _, rfl, t.dk, _, 3, 3, rfl, rfl, g1, rfl, ?_⟩
    have u1 : upd H1 t.dk (.lst ([V.ref t.d0, .ref t.d1, .int a, .int m].set 3 (.int (m + 1)))) t.dk = some (.lst [V.ref t.d0, .ref t.d1, .int a, .int (m + 1)]) := upd_same
    have u2 : upd H1 t.dk (.lst ([V.ref t.d0, .ref t.d1, .int a, .int m].set 3 (.int (m + 1)))) t.d0 = some (.lst []) := by rw [upd_ne e1.symm]; exact g2
    have u3 : upd H1 t.dk (.lst ([V.ref t.d0, .ref t.d1, .int a, .int m].set 3 (.int (m + 1)))) t.d1 = some (.lst (xs1.map V.int)) := by rw [upd_ne e2.symm]; exact g3
    have d2 : DS t H (upd H1 t.dk (.lst ([V.ref t.d0, .ref t.d1, .int a, .int m].set 3 (.int (m + 1))))) :=
      (DS.of hk s1).trans ⟨tch_upd (by simp), kp_lst g1, [], xs1, a, m + 1, u1, u2, u3, h4, by simp, hl1, e1, e2, e3⟩
    generalize upd H1 t.dk (.lst ([V.ref t.d0, .ref t.d1, .int a, .int m].set 3 (.int (m + 1)))) = H2 at u1 u2 u3 d2
    have hpos : 1 ≤ xs1.length := List.length_pos_iff.mpr h4
    obtain ⟨j, ej, hj⟩ := mod_nat (a := m + 1) hpos
    have hx : (xs1.map V.int)[j]? = some (.int (xs1[j])) := by rw [List.getElem?_map, List.getElem?_eq_getElem hj]; rfl
    refine ⟨_, rfl, _, _, _, _, rfl, rfl, SqL.of u1, rfl, ?_⟩
    refine ⟨_, rfl, _, _, _, _, rfl, rfl, SqL.of u1, rfl, _, rfl, .inl ⟨_, rfl, _, rfl, _, _, _, _, rfl, rfl, SqL.of u1, rfl, _, _, rfl, .inl (SqL.of u3), _, _, rfl, rfl, by simp; omega, _, _, _, _, rfl, rfl, SqL.of u3, at_of (j := j) (by simpa using ej) hx, ?_⟩⟩
    refine ⟨_, rfl, _, _, rfl, rfl, .inr (by omega), _, rfl, _, _, _, _, rfl, rfl, SqL.of u1, rfl, _, _, rfl, rfl, .inr (by omega), _, _, rfl, rfl, _, rfl, _, _, rfl, rfl, .inr (by omega), _, _, rfl, rfl, .inl ⟨_, rfl, _, _, rfl, rfl, (by show (0 : Int) < 2305843009213693951; decide), ?_⟩⟩
    refine ⟨_, rfl, _, rfl, _, _, rfl, rfl, .inr (by omega), _, rfl, _, _, rfl, rfl, .inr (by omega), _, _, rfl, rfl, _, _, rfl, rfl, .inl ⟨_, rfl, _, _, rfl, rfl, (by show (0 : Int) < 2305843009213693921; decide), ?_⟩⟩
    refine ⟨_, rfl, _, rfl, _, _, rfl, rfl, .inr (by omega), _, rfl, _, _, rfl, rfl, _, rfl, _, _, rfl, rfl, .inl ⟨_, rfl, _, _, rfl, rfl, (by show (0 : Int) < 2147483647; decide), ?_⟩⟩
    refine ⟨_, rfl, _, _, rfl, rfl, ⟨by decide, by decide⟩, .inl ⟨_, rfl, _, rfl, _, _, rfl, rfl, by omega, ?_⟩⟩
    have key : ∀ z : Int, Q (.int (z % (n : Int))) H2 := fun z => by
      obtain ⟨r, er, hr'⟩ := mod_nat (a := z) hn
      rw [er]
      exact q r H2 hr' d2
    exact key _
end K9

set_option maxHeartbeats 4000000
namespace K9
open PySem PySem.Spec L2
/-- a new deck -/
def spDeck (K : PySem.W.Frag) : Sp := fun vs H Q _ => ∃ (o : Addr) (xs : List Int), vs = [.ref o] ∧ SqL K H o (xs.map V.int) ∧ ∀ t H', Same H H' → Dk H' t → Q (.ref t.dk) H'
abbrev s_law_deck : Stmt := top 34
abbrev N_law_deck : List Str := ["_law_script", "_law_cells", "_law_cell"]
theorem sc_law_deck : FnScope N_law_deck ["_law_script"] (C8.fnScope s_law_deck) := C8.fnScope_by (by decide +kernel)
theorem ok_law_deck {P : Program} {w : World} {K : PySem.W.Frag} {mg : Str → Option Value} {base : Heap} (T : Tp0 w K mg) (F : D0 K mg "_law_deck" s_law_deck ["_law_script"]) : C8.Cal P w K mg base 1 "_law_deck" (spDeck K) [] := by
  refine F.ok sc_law_deck (fun vs H Q E h => ?_) (fun f cdv A outer s H vs Q E hr h => ?_)
  · obtain ⟨_, _, rfl, _⟩ := h
    rfl
  obtain ⟨o, xs, rfl, ho, q⟩ := h
  refine ⟨_, (pss_cons (ps_setLc (i := 1) (own := [("_law_cell", 2)]) (g := gName 2) (tt := tYes) rfl sc_law_deck.nd rfl rfl (sw_true rfl rfl rfl (by decide +kernel)) (pi_list (pe_slice sl_list (pv 0) po_none (po_some pe_int))) (blkOk_by (N := N_law_deck) (sc := C8.fnScope s_law_deck) (by decide +kernel)) (fun _ _ _ _ _ => (pg_name (i := 2) sc_law_deck.nd rfl (Or.inl rfl))) (fun _ _ _ _ _ => pts_nil) (fun _ _ _ _ _ => (pe_op op_add (pe_op op_mul pe_int (pe_callB call_abs rfl T.abs bo_abs (pa_cons (pv 2) pa_nil))) (pe_callTy call_int1 rfl T.int bo_int (pa_cons (pe_cmpR op_lt (pv 2) pe_int (nomark _)) pa_nil)))))
    (pss_one (ps_ret (pe_lst (pa_cons (pe_lc (own := [("_law_cell", 2)]) (g := gName 2) rfl sc_law_deck.nd (pi_list (pv 1)) (blkOk_by (N := N_law_deck) (sc := C8.fnScope s_law_deck) (by decide +kernel)) (fun _ _ _ _ _ => (pg_name (i := 2) sc_law_deck.nd rfl (Or.inl rfl))) (fun _ _ _ _ _ => (pts_one (pt_cmpR op_ge (pv 2) (pe_op op_pow pe_int pe_int) (nomark _)))) (fun _ _ _ _ _ => (pv 2))) (pa_cons (pe_op op_cat (pv 1) (pe_lst (pa_cons (pe_op op_add (pe_callB call_len_seq rfl T.len bo_len (pa_cons (pv 1) pa_nil)) pe_int) pa_nil))) (pa_cons (pe_callB (cr_sum rfl) rfl T.sum bo_sum (pa_cons (pv 1) pa_nil)) (pa_cons pe_int pa_nil)))))))), ?_⟩
  refine ⟨_, rfl, _, rfl, _, _, rfl, ho, fun p hp => ⟨_, rfl, ⟨_, SqL.of upd_same⟩, fun o2 ho2 => ?_⟩⟩
  have s1 : Same H (upd H p (.lst (cutV (xs.map V.int) none (some 63)))) := same_new hp
  have ep : upd H p (.lst (cutV (xs.map V.int) none (some 63))) p = some (.lst (cutV (xs.map V.int) none (some 63))) := upd_same
  have ecut : cutV (xs.map V.int) none (some 63) = (xs.take 63).map V.int := by
    unfold cutV
    rw [HT.sIx_none, show (63 : Int) = ((63 : Nat) : Int) by rfl, HT.sIx_nat, List.length_map, List.drop_zero, List.map_take]
    rw [Nat.sub_zero]
    by_cases c : 63 ≤ xs.length
    · rw [Nat.min_eq_left c]
    · rw [Nat.min_eq_right (by omega), List.take_of_length_le (by simp), List.take_of_length_le (by simp; omega)]
  rw [ecut] at ep s1 ho2 ⊢
  have hy : (xs.take 63).length ≤ 63 := by rw [List.length_take]; omega
  generalize xs.take 63 = ys at ep s1 ho2 hy
  generalize upd H p (.lst (ys.map V.int)) = H1 at ep s1 ho2
  refine lc_list (xs := ys.map V.int) (fun i H' => Same H1 H' ∧ ∃ zs : List Int, H' o2 = some (.lst (zs.map V.int)) ∧ zs.length = i) ⟨same_new ho2, [], upd_same, rfl⟩ (fun i H' hi hP => SqL.of (hP.1 _ _ ep)) (fun i x H' ex hP => ?_) (fun H' hP => ?_)
  · obtain ⟨e, zs, eo, hz⟩ := hP
    have hi := (List.getElem?_eq_some_iff.mp ex).1
    rw [List.length_map] at hi
    rw [List.getElem?_map, List.getElem?_eq_getElem hi] at ex
    cases ex
    refine ⟨rfl, tyes ⟨_, rfl, _, rfl, _, _, rfl, rfl, .inl (by omega), _, rfl, _, _, rfl, rfl, .inr ⟨_, rfl, _, _, rfl, rfl, ?_⟩⟩⟩
    refine ⟨_, eo, lt_size (by simp; omega), e.mut ho2, zs ++ [(2 * if ys[i] < 0 then -ys[i] else ys[i]) + (if decide (ys[i] < 0) = true then 1 else 0)], ?_, by simp [hz]⟩
    rw [upd_same, List.map_append]
    rfl
  · obtain ⟨e, zs, eo, hz⟩ := hP
    rw [List.length_map] at hz
    have s2 := s1.trans e
    refine ⟨_, rfl, _, rfl, ⟨_, SqL.of eo⟩, fun o3 ho3 => ?_⟩
    refine lc_list (xs := zs.map V.int) (fun i H2 => Same H' H2 ∧ ∃ ws : List Int, H2 o3 = some (.lst (ws.map V.int)) ∧ ws.length ≤ i) ⟨same_new ho3, [], upd_same, Nat.le_refl _⟩ (fun i H2 hi hP => SqL.of (hP.1 _ _ eo)) (fun i x H2 ex hP => ?_) (fun H2 hP => ?_)
    · obtain ⟨e2, ws, ew, hw⟩ := hP
      have hi := (List.getElem?_eq_some_iff.mp ex).1
      rw [List.length_map] at hi
      rw [List.getElem?_map, List.getElem?_eq_getElem hi] at ex
      cases ex
      refine ⟨rfl, _, rfl, _, _, rfl, rfl, ⟨by decide, by decide, by decide⟩, _, _, rfl, rfl, _, rfl, ?_⟩
      by_cases c : (10 : Int) ^ (18 : Int).toNat ≤ zs[i]
      · rw [decide_eq_true c]
        refine iteT ⟨_, rfl, _, ew, lt_size (by simp; omega), e2.mut ho3, ws ++ [zs[i]], ?_, by simp; omega⟩
        rw [upd_same, List.map_append]
        rfl
      · rw [decide_eq_false c]
        exact iteF ⟨e2, ws, ew, by omega⟩
    · obtain ⟨e2, ws, ew, hw⟩ := hP
      rw [List.length_map] at hw
      have s3 := s2.trans e2
      have ez := e2 _ _ eo
      refine ⟨_, rfl, _, rfl, _, _, rfl, .inl (SqL.of ez), _, _, rfl, rfl, by show 1 ≤ sizeLine; decide, fun l1 hl1 => ?_⟩
      have s4 := same_new (o := .lst [V.int (((zs.map V.int).length : Int) + 977)]) hl1
      refine ⟨_, _, _, _, rfl, rfl, s4 _ _ ez, upd_same, le_size (by simp; omega), fun l2 hl2 => ?_⟩
      have s5 := same_new (o := .lst (zs.map V.int ++ [V.int (((zs.map V.int).length : Int) + 977)])) hl2
      refine ⟨_, rfl, _, zs, rfl, SqL.of ((s4.trans s5) _ _ ez), by show 4 ≤ sizeLine; decide, fun dk hdk => ?_⟩
      have s6 := same_new (o := .lst [V.ref o3, .ref l2, .int zs.sum, .int 0]) hdk
      have f1 := (s4.trans s5) _ _ ew
      have f2 := upd_same (H := upd H2 l1 (.lst [V.int (((zs.map V.int).length : Int) + 977)])) (a := l2) (o := .lst (zs.map V.int ++ [V.int (((zs.map V.int).length : Int) + 977)]))
      have n1 : dk ≠ o3 := fun z => by
        subst z
        rw [f1] at hdk
        cases hdk
      have n2 : dk ≠ l2 := fun z => by
        subst z
        rw [f2] at hdk
        cases hdk
      have n3 : o3 ≠ l2 := fun z => by
        subst z
        rw [s4 _ _ ew] at hl2
        cases hl2
      refine q ⟨dk, o3, l2⟩ _ (s3.trans (s4.trans (s5.trans s6))) ⟨ws, zs ++ [((zs.map V.int).length : Int) + 977], zs.sum, 0, upd_same, s6 _ _ f1, ?_, by simp, by omega, by simp; omega, n1, n2, n3⟩
      rw [List.map_append]
      exact s6 _ _ f2
abbrev s_law_pick : Stmt := top 36
abbrev N_law_pick : List Str := ["_law_deck_here", "_law_items"]
theorem sc_law_pick : FnScope N_law_pick ["_law_deck_here", "_law_items"] (C8.fnScope s_law_pick) := C8.fnScope_by (by decide +kernel)
/-- one of the items -/
def spPick : Sp := fun vs H Q _ => ∃ (t : Kd) (o : Addr) (xs : List V), vs = [.ref t.dk, .ref o] ∧ Dk H t ∧ H o = some (.lst xs) ∧ xs ≠ [] ∧ xs.length ≤ 1000 ∧ o ≠ t.dk ∧ o ≠ t.d0 ∧ ∀ v H', v ∈ xs → DS t H H' → Q v H'
theorem ok_law_pick {P : Program} {w : World} {K : PySem.W.Frag} {mg : Str → Option Value} {base : Heap} (T : Tp0 w K mg) (F : D0 K mg "_law_pick" s_law_pick ["_law_deck_here", "_law_items"])
    (c_law_draw : C8.Cal P w K mg base 1 "_law_draw" spDraw []) : C8.Cal P w K mg base 2 "_law_pick" spPick [] := by
  refine F.ok sc_law_pick (fun vs H Q E h => ?_) (fun f cdv A outer s H vs Q E hr h => ?_)
  · obtain ⟨_, _, _, rfl, _⟩ := h
    rfl
  obtain ⟨t, o, xs, rfl, hk, ho, hne, hlen, n1, n2, q⟩ := h
  refine ⟨_, (pss_one (ps_ret (pe_ix (r := rIxL K) ix_list (pv 1) (C8.pe_c c_law_draw hr (by omega) rfl (pa_cons (pv 0) (pa_cons (pe_callB call_len_seq rfl T.len bo_len (pa_cons (pv 1) pa_nil)) pa_nil))) (fun _ _ => rfl)))), ?_⟩
  have hpos : 1 ≤ xs.length := List.length_pos_iff.mpr hne
  refine ⟨_, rfl, _, rfl, _, rfl, _, _, rfl, .inl (SqL.of ho), t, xs.length, rfl, hpos, by omega, hk, fun r H1 hr' d1 => ?_⟩
  exact ⟨_, _, _, _, rfl, rfl, SqL.of (d1.keep ho n1 n2), atI_nat (List.getElem?_eq_getElem hr'), q _ _ (List.getElem_mem hr') d1⟩
abbrev s_law_order : Stmt := top 37
abbrev N_law_order : List Str := ["_law_deck_here", "_law_items", "_law_rest", "_law_found", "_law_turn"]
theorem sc_law_order : FnScope N_law_order ["_law_deck_here", "_law_items"] (C8.fnScope s_law_order) := C8.fnScope_by (by decide +kernel)
theorem perm_erase {α : Type} : ∀ (l : List α) {i : Nat} (h : i < l.length), (l[i] :: l.eraseIdx i).Perm l
  | [], i, h => by simp at h
  | x :: l, 0, h => by simp
  | x :: l, i + 1, h => by
    have ih := perm_erase l (i := i) (by simpa using h)
    simp only [List.getElem_cons_succ, List.eraseIdx_cons_succ]
    exact (List.Perm.swap _ _ _).trans (ih.cons x)
/-- the items in any order -/
def spOrder : Sp := fun vs H Q _ => ∃ (t : Kd) (o : Addr) (xs : List V), vs = [.ref t.dk, .ref o] ∧ Dk H t ∧ H o = some (.lst xs) ∧ xs.length ≤ 1000 ∧ ∀ l ys H', ys.Perm xs → DS t H H' → H l = none → H' l = some (.lst ys) → Q (.ref l) H'
theorem ok_law_order {P : Program} {w : World} {K : PySem.W.Frag} {mg : Str → Option Value} {base : Heap} (T : Tp0 w K mg) (F : D0 K mg "_law_order" s_law_order ["_law_deck_here", "_law_items"])
    (c_law_draw : C8.Cal P w K mg base 1 "_law_draw" spDraw []) : C8.Cal P w K mg base 2 "_law_order" spOrder [] := by
  refine F.ok sc_law_order (fun vs H Q E h => ?_) (fun f cdv A outer s H vs Q E hr h => ?_)
  · obtain ⟨_, _, _, rfl, _⟩ := h
    rfl
  obtain ⟨t, o, xs, rfl, hk, ho, hlen, q⟩ := h
  refine ⟨_, (pss_cons (ps_par (i := 2) (j := 3) rfl sc_law_order.nd rfl rfl (by decide) rfl rfl (pa_cons (pe_callTy call_list_of rfl T.list bo_list (pa_cons (pv 1) pa_nil)) (pa_cons (pe_lst pa_nil) pa_nil)) (by rfl))
    (pss_cons (ps_for PassesOwn.never rfl (pi_range1 rfl T.range (pa_cons (pe_callB call_len_seq rfl T.len bo_len (pa_cons (pv 1) pa_nil)) pa_nil)) (pg_name (i := 4) sc_law_order.nd rfl (Or.inl rfl))
      (pss_one (ps_expr (pe_bm PySem.F.plainAttrs_list PySem.F.slot_list_append PySem.F.type_list_append mt_append (pv 3) (pa_cons (pe_bm PySem.F.plainAttrs_list PySem.F.slot_list_pop PySem.F.type_list_pop mt_popAt (pv 2) (pa_cons (C8.pe_c c_law_draw hr (by omega) rfl (pa_cons (pv 0) (pa_cons (pe_callB call_len_seq rfl T.len bo_len (pa_cons (pv 2) pa_nil)) pa_nil))) pa_nil)) pa_nil)))))
    (pss_one (ps_ret (pv 3))))), ?_⟩
  refine ⟨_, rfl, _, _, rfl, .inl (SqL.of ho), fun l hl => ⟨Nat.zero_le _, fun fo hfo => ?_⟩⟩
  have s1 : Same H (upd H l (.lst xs)) := same_new hl
  have el : upd H l (.lst xs) l = some (.lst xs) := upd_same
  generalize upd H l (.lst xs) = H1 at s1 el hfo
  have s2 : Same H1 (upd H1 fo (.lst [])) := same_new hfo
  have ef : upd H1 fo (.lst []) fo = some (.lst []) := upd_same
  have hlf : l ≠ fo := fun z => by
    subst z
    rw [el] at hfo
    cases hfo
  refine ⟨_, _, rfl, _, rfl, _, _, rfl, .inl (SqL.of ((s1.trans s2) _ _ ho)), _, rfl, by omega, by omega, ?_⟩
  have d0 := DS.of hk (s1.trans s2)
  have hfn := s1.none hfo
  refine for_range (lo := 0) (n := ((xs.length : Int)).toNat) (fun i σ H' => ∃ (y4 : Option V) (as bs : List V), σ = [some (.ref t.dk), some (.ref o), some (.ref l), some (.ref fo), y4] ∧ DS t H H' ∧ H' l = some (.lst as) ∧ H' fo = some (.lst bs) ∧ (as ++ bs).Perm xs ∧ bs.length = i) ⟨_, xs, [], rfl, d0, s2 _ _ el, ef, by simp, rfl⟩ (fun i σ H' hi hP => ?_) (fun σ H' hP => ?_)
  · obtain ⟨y4, as, bs, rfl, d1, ha, hb, hpm, hbl⟩ := hP
    have hl2 := hpm.length_eq
    rw [List.length_append] at hl2
    have hk1 := d1.2.2
    obtain ⟨m1, m2, m3⟩ := hk.ne hl
    obtain ⟨k1, k2, k3⟩ := hk.ne hfn
    refine ⟨_, rfl, .inl ⟨rfl, _, SqL.of hb⟩, _, rfl, .inl ⟨rfl, _, SqL.of ha⟩, _, rfl, _, rfl, _, _, rfl, .inl (SqL.of ha), t, as.length, rfl, by omega, by omega, hk1, fun r H2 hr' d2 => ?_⟩
    have ha2 := d2.keep ha m1 m2
    have hb2 := d2.keep hb k1 k2
    have hx : as[r]? = some as[r] := List.getElem?_eq_getElem hr'
    refine ⟨l, as, r, r, as[r], rfl, rfl, ha2, by omega, by omega, ?_, hx, ?_⟩
    · unfold seqIndex?
      simp
      omega
    refine ⟨fo, bs, _, rfl, rfl, by rw [upd_ne hlf.symm]; exact hb2, lt_size (by omega), ?_⟩
    refine ⟨_, as.eraseIdx r, bs ++ [as[r]], rfl, ((d1.trans d2).mut hk hl).mut hk hfn, by rw [upd_ne hlf, upd_same], upd_same, ?_, by simp [hbl]⟩
    have p1 : (as[r] :: as.eraseIdx r).Perm as := perm_erase as hr'
    have p2 : (as.eraseIdx r ++ (bs ++ [as[r]])).Perm (as ++ bs) := by
      have : (as.eraseIdx r ++ (bs ++ [as[r]])).Perm ((as[r] :: as.eraseIdx r) ++ bs) := by
        rw [← List.append_assoc]
        exact (List.perm_append_singleton _ _)
      exact this.trans (p1.append_right bs)
    exact p2.trans hpm
  · obtain ⟨y4, as, bs, rfl, d1, ha, hb, hpm, hbl⟩ := hP
    have hl2 := hpm.length_eq
    rw [List.length_append] at hl2
    have : as = [] := List.length_eq_zero_iff.mp (by omega)
    subst this
    exact ⟨_, rfl, q fo bs H' hpm d1 hfn hb⟩
end K9

set_option maxHeartbeats 4000000
namespace K9
open PySem PySem.Spec L2
/-- an entry of the menu -/
def ItR (K : PySem.W.Frag) (H : Hp) (i : Nat) (v : V) : Prop := ∃ p, v = .ref p ∧ SqT K H p [.str (word i), .int (eL i : Int), .int (eR i : Int)]
theorem Kp.itR {K : PySem.W.Frag} {H H' : Hp} {i : Nat} {v : V} (e : Kp H H') (h : ItR K H i v) : ItR K H' i v := by
  obtain ⟨p, rfl, h⟩ := h
  exact ⟨p, rfl, e.tup h⟩
theorem Lk.cons {α : Type} {R : α → V → Prop} {d : α} {v : V} {ps : List α} {vs : List V} (r : R d v) (h : Lk R ps vs) : Lk R (d :: ps) (v :: vs) := (Lk.one r).app h
/-- the menu, new -/
def spMenu (K : PySem.W.Frag) : Sp := fun vs H Q _ => ∃ b : Bool, vs = [.bl b] ∧ ∀ l xs H', Same H H' → H l = none → H' l = some (.lst xs) → Lk (ItR K H') (if b = true then [0, 1, 2, 3, 4, 5, 6, 7, 8, 9, 10, 11] else [0, 1, 2, 3, 4, 5, 6, 7, 8, 9, 10, 11, 12, 13]) xs → Q (.ref l) H'
abbrev s_law_menu : Stmt := top 38
abbrev N_law_menu : List Str := ["_law_is_plain", "_law_menu_here"]
theorem sc_law_menu : FnScope N_law_menu ["_law_is_plain"] (C8.fnScope s_law_menu) := C8.fnScope_by (by decide +kernel)
theorem ok_law_menu {P : Program} {w : World} {K : PySem.W.Frag} {mg : Str → Option Value} {base : Heap} (T : Tp0 w K mg) (F : D0 K mg "_law_menu" s_law_menu ["_law_is_plain"]) : C8.Cal P w K mg base 1 "_law_menu" (spMenu K) [] := by
  refine F.ok sc_law_menu (fun vs H Q E h => ?_) (fun f cdv A outer s H vs Q E hr h => ?_)
  · obtain ⟨_, rfl, _⟩ := h
    rfl
  obtain ⟨b, rfl, q⟩ := h
  refine ⟨_, (pss_cons (ps_set (i := 1) sc_law_menu.nd rfl (Or.inl rfl) (pe_lst (pa_cons (pe_tup (pa_cons pe_str (pa_cons pe_int (pa_cons pe_int pa_nil)))) (pa_cons (pe_tup (pa_cons pe_str (pa_cons pe_int (pa_cons pe_int pa_nil)))) (pa_cons (pe_tup (pa_cons pe_str (pa_cons pe_int (pa_cons pe_int pa_nil)))) (pa_cons (pe_tup (pa_cons pe_str (pa_cons pe_int (pa_cons pe_int pa_nil)))) (pa_cons (pe_tup (pa_cons pe_str (pa_cons pe_int (pa_cons pe_int pa_nil)))) (pa_cons (pe_tup (pa_cons pe_str (pa_cons pe_int (pa_cons pe_int pa_nil)))) pa_nil))))))))
    (pss_cons (ps_set (i := 1) sc_law_menu.nd rfl (Or.inl rfl) (pe_op op_cat (pv 1) (pe_lst (pa_cons (pe_tup (pa_cons pe_str (pa_cons pe_int (pa_cons pe_int pa_nil)))) (pa_cons (pe_tup (pa_cons pe_str (pa_cons pe_int (pa_cons pe_int pa_nil)))) (pa_cons (pe_tup (pa_cons pe_str (pa_cons pe_int (pa_cons pe_int pa_nil)))) (pa_cons (pe_tup (pa_cons pe_str (pa_cons pe_int (pa_cons pe_int pa_nil)))) (pa_cons (pe_tup (pa_cons pe_str (pa_cons pe_int (pa_cons pe_int pa_nil)))) pa_nil))))))))
    (pss_one (ps_ret (pe_ifExp (pt_val (pv 0)) (pe_op op_cat (pv 1) (pe_lst (pa_cons (pe_tup (pa_cons pe_str (pa_cons pe_int (pa_cons pe_int pa_nil)))) pa_nil))) (pe_op op_cat (pv 1) (pe_lst (pa_cons (pe_tup (pa_cons pe_str (pa_cons pe_int (pa_cons pe_int pa_nil)))) (pa_cons (pe_tup (pa_cons pe_str (pa_cons pe_int (pa_cons pe_int pa_nil)))) (pa_cons (pe_tup (pa_cons pe_str (pa_cons pe_int (pa_cons pe_int pa_nil)))) pa_nil)))))))))), ?_⟩
  have aa : Same H H := Same.refl H
  refine ⟨by show 3 ≤ sizeLine; decide, fun t0 ht0 => ?_⟩
  have s0 : Same H (upd H t0 (.tup [V.str "wire", .int 1, .int 1])) := same_new ht0
  have e0 : ItR K (upd H t0 (.tup [V.str "wire", .int 1, .int 1])) 0 (.ref t0) := ⟨t0, rfl, SqT.of upd_same⟩
  generalize upd H t0 (.tup [V.str "wire", .int 1, .int 1]) = G0 at s0 e0 ⊢
  replace aa := aa.trans s0
  refine ⟨by show 3 ≤ sizeLine; decide, fun t1 ht1 => ?_⟩
  have s1 : Same G0 (upd G0 t1 (.tup [V.str "cross", .int 2, .int 2])) := same_new ht1
  have e1 : ItR K (upd G0 t1 (.tup [V.str "cross", .int 2, .int 2])) 1 (.ref t1) := ⟨t1, rfl, SqT.of upd_same⟩
  generalize upd G0 t1 (.tup [V.str "cross", .int 2, .int 2]) = G1 at s1 e1 ⊢
  replace e0 := s1.kp.itR e0
  replace aa := aa.trans s1
  refine ⟨by show 3 ≤ sizeLine; decide, fun t2 ht2 => ?_⟩
  have s2 : Same G1 (upd G1 t2 (.tup [V.str "copy", .int 1, .int 2])) := same_new ht2
  have e2 : ItR K (upd G1 t2 (.tup [V.str "copy", .int 1, .int 2])) 2 (.ref t2) := ⟨t2, rfl, SqT.of upd_same⟩
  generalize upd G1 t2 (.tup [V.str "copy", .int 1, .int 2]) = G2 at s2 e2 ⊢
  replace e0 := s2.kp.itR e0
  replace e1 := s2.kp.itR e1
  replace aa := aa.trans s2
  refine ⟨by show 3 ≤ sizeLine; decide, fun t3 ht3 => ?_⟩
  have s3 : Same G2 (upd G2 t3 (.tup [V.str "drop", .int 1, .int 0])) := same_new ht3
  have e3 : ItR K (upd G2 t3 (.tup [V.str "drop", .int 1, .int 0])) 3 (.ref t3) := ⟨t3, rfl, SqT.of upd_same⟩
  generalize upd G2 t3 (.tup [V.str "drop", .int 1, .int 0]) = G3 at s3 e3 ⊢
  replace e0 := s3.kp.itR e0
  replace e1 := s3.kp.itR e1
  replace e2 := s3.kp.itR e2
  replace aa := aa.trans s3
  refine ⟨by show 3 ≤ sizeLine; decide, fun t4 ht4 => ?_⟩
  have s4 : Same G3 (upd G3 t4 (.tup [V.str "add", .int 2, .int 1])) := same_new ht4
  have e4 : ItR K (upd G3 t4 (.tup [V.str "add", .int 2, .int 1])) 4 (.ref t4) := ⟨t4, rfl, SqT.of upd_same⟩
  generalize upd G3 t4 (.tup [V.str "add", .int 2, .int 1]) = G4 at s4 e4 ⊢
  replace e0 := s4.kp.itR e0
  replace e1 := s4.kp.itR e1
  replace e2 := s4.kp.itR e2
  replace e3 := s4.kp.itR e3
  replace aa := aa.trans s4
  refine ⟨by show 3 ≤ sizeLine; decide, fun t5 ht5 => ?_⟩
  have s5 : Same G4 (upd G4 t5 (.tup [V.str "nought", .int 0, .int 1])) := same_new ht5
  have e5 : ItR K (upd G4 t5 (.tup [V.str "nought", .int 0, .int 1])) 5 (.ref t5) := ⟨t5, rfl, SqT.of upd_same⟩
  generalize upd G4 t5 (.tup [V.str "nought", .int 0, .int 1]) = G5 at s5 e5 ⊢
  replace e0 := s5.kp.itR e0
  replace e1 := s5.kp.itR e1
  replace e2 := s5.kp.itR e2
  replace e3 := s5.kp.itR e3
  replace e4 := s5.kp.itR e4
  replace aa := aa.trans s5
  refine ⟨by show 6 ≤ sizeLine; decide, fun la hla => ?_⟩
  have sA : Same G5 (upd G5 la (.lst [V.ref t0, V.ref t1, V.ref t2, V.ref t3, V.ref t4, V.ref t5])) := same_new hla
  have fA : upd G5 la (.lst [V.ref t0, V.ref t1, V.ref t2, V.ref t3, V.ref t4, V.ref t5]) la = some (.lst [V.ref t0, V.ref t1, V.ref t2, V.ref t3, V.ref t4, V.ref t5]) := upd_same
  generalize upd G5 la (.lst [V.ref t0, V.ref t1, V.ref t2, V.ref t3, V.ref t4, V.ref t5]) = GA at sA fA ⊢
  replace e0 := sA.kp.itR e0
  replace e1 := sA.kp.itR e1
  replace e2 := sA.kp.itR e2
  replace e3 := sA.kp.itR e3
  replace e4 := sA.kp.itR e4
  replace e5 := sA.kp.itR e5
  replace aa := aa.trans sA
  refine ⟨_, rfl, ?_⟩
  refine ⟨by show 3 ≤ sizeLine; decide, fun t6 ht6 => ?_⟩
  have s6 : Same GA (upd GA t6 (.tup [V.str "times", .int 1, .int 1])) := same_new ht6
  have e6 : ItR K (upd GA t6 (.tup [V.str "times", .int 1, .int 1])) 6 (.ref t6) := ⟨t6, rfl, SqT.of upd_same⟩
  generalize upd GA t6 (.tup [V.str "times", .int 1, .int 1]) = G6 at s6 e6 ⊢
  replace e0 := s6.kp.itR e0
  replace e1 := s6.kp.itR e1
  replace e2 := s6.kp.itR e2
  replace e3 := s6.kp.itR e3
  replace e4 := s6.kp.itR e4
  replace e5 := s6.kp.itR e5
  replace aa := aa.trans s6
  refine ⟨by show 3 ≤ sizeLine; decide, fun t7 ht7 => ?_⟩
  have s7 : Same G6 (upd G6 t7 (.tup [V.str "uncopy", .int 2, .int 1])) := same_new ht7
  have e7 : ItR K (upd G6 t7 (.tup [V.str "uncopy", .int 2, .int 1])) 7 (.ref t7) := ⟨t7, rfl, SqT.of upd_same⟩
  generalize upd G6 t7 (.tup [V.str "uncopy", .int 2, .int 1]) = G7 at s7 e7 ⊢
  replace e0 := s7.kp.itR e0
  replace e1 := s7.kp.itR e1
  replace e2 := s7.kp.itR e2
  replace e3 := s7.kp.itR e3
  replace e4 := s7.kp.itR e4
  replace e5 := s7.kp.itR e5
  replace e6 := s7.kp.itR e6
  replace aa := aa.trans s7
  refine ⟨by show 3 ≤ sizeLine; decide, fun t8 ht8 => ?_⟩
  have s8 : Same G7 (upd G7 t8 (.tup [V.str "undrop", .int 0, .int 1])) := same_new ht8
  have e8 : ItR K (upd G7 t8 (.tup [V.str "undrop", .int 0, .int 1])) 8 (.ref t8) := ⟨t8, rfl, SqT.of upd_same⟩
  generalize upd G7 t8 (.tup [V.str "undrop", .int 0, .int 1]) = G8 at s8 e8 ⊢
  replace e0 := s8.kp.itR e0
  replace e1 := s8.kp.itR e1
  replace e2 := s8.kp.itR e2
  replace e3 := s8.kp.itR e3
  replace e4 := s8.kp.itR e4
  replace e5 := s8.kp.itR e5
  replace e6 := s8.kp.itR e6
  replace e7 := s8.kp.itR e7
  replace aa := aa.trans s8
  refine ⟨by show 3 ≤ sizeLine; decide, fun t9 ht9 => ?_⟩
  have s9 : Same G8 (upd G8 t9 (.tup [V.str "unadd", .int 1, .int 2])) := same_new ht9
  have e9 : ItR K (upd G8 t9 (.tup [V.str "unadd", .int 1, .int 2])) 9 (.ref t9) := ⟨t9, rfl, SqT.of upd_same⟩
  generalize upd G8 t9 (.tup [V.str "unadd", .int 1, .int 2]) = G9 at s9 e9 ⊢
  replace e0 := s9.kp.itR e0
  replace e1 := s9.kp.itR e1
  replace e2 := s9.kp.itR e2
  replace e3 := s9.kp.itR e3
  replace e4 := s9.kp.itR e4
  replace e5 := s9.kp.itR e5
  replace e6 := s9.kp.itR e6
  replace e7 := s9.kp.itR e7
  replace e8 := s9.kp.itR e8
  replace aa := aa.trans s9
  refine ⟨by show 3 ≤ sizeLine; decide, fun t10 ht10 => ?_⟩
  have s10 : Same G9 (upd G9 t10 (.tup [V.str "unnought", .int 1, .int 0])) := same_new ht10
  have e10 : ItR K (upd G9 t10 (.tup [V.str "unnought", .int 1, .int 0])) 10 (.ref t10) := ⟨t10, rfl, SqT.of upd_same⟩
  generalize upd G9 t10 (.tup [V.str "unnought", .int 1, .int 0]) = G10 at s10 e10 ⊢
  replace e0 := s10.kp.itR e0
  replace e1 := s10.kp.itR e1
  replace e2 := s10.kp.itR e2
  replace e3 := s10.kp.itR e3
  replace e4 := s10.kp.itR e4
  replace e5 := s10.kp.itR e5
  replace e6 := s10.kp.itR e6
  replace e7 := s10.kp.itR e7
  replace e8 := s10.kp.itR e8
  replace e9 := s10.kp.itR e9
  replace aa := aa.trans s10
  have fA' := (s6.trans (s7.trans (s8.trans (s9.trans s10)))) _ _ fA
  refine ⟨by show 5 ≤ sizeLine; decide, fun lb hlb => ?_⟩
  have sB : Same G10 (upd G10 lb (.lst [V.ref t6, V.ref t7, V.ref t8, V.ref t9, V.ref t10])) := same_new hlb
  have fB : upd G10 lb (.lst [V.ref t6, V.ref t7, V.ref t8, V.ref t9, V.ref t10]) lb = some (.lst [V.ref t6, V.ref t7, V.ref t8, V.ref t9, V.ref t10]) := upd_same
  generalize upd G10 lb (.lst [V.ref t6, V.ref t7, V.ref t8, V.ref t9, V.ref t10]) = GB at sB fB ⊢
  replace e0 := sB.kp.itR e0
  replace e1 := sB.kp.itR e1
  replace e2 := sB.kp.itR e2
  replace e3 := sB.kp.itR e3
  replace e4 := sB.kp.itR e4
  replace e5 := sB.kp.itR e5
  replace e6 := sB.kp.itR e6
  replace e7 := sB.kp.itR e7
  replace e8 := sB.kp.itR e8
  replace e9 := sB.kp.itR e9
  replace e10 := sB.kp.itR e10
  replace aa := aa.trans sB
  replace fA' := sB _ _ fA'
  refine ⟨la, lb, _, _, rfl, rfl, fA', fB, by show 11 ≤ sizeLine; decide, fun lc hlc => ?_⟩
  have sC : Same GB (upd GB lc (.lst ([V.ref t0, V.ref t1, V.ref t2, V.ref t3, V.ref t4, V.ref t5] ++ [V.ref t6, V.ref t7, V.ref t8, V.ref t9, V.ref t10]))) := same_new hlc
  have fC : upd GB lc (.lst ([V.ref t0, V.ref t1, V.ref t2, V.ref t3, V.ref t4, V.ref t5] ++ [V.ref t6, V.ref t7, V.ref t8, V.ref t9, V.ref t10])) lc = some (.lst [V.ref t0, V.ref t1, V.ref t2, V.ref t3, V.ref t4, V.ref t5, V.ref t6, V.ref t7, V.ref t8, V.ref t9, V.ref t10]) := upd_same
  generalize upd GB lc (.lst ([V.ref t0, V.ref t1, V.ref t2, V.ref t3, V.ref t4, V.ref t5] ++ [V.ref t6, V.ref t7, V.ref t8, V.ref t9, V.ref t10])) = GC at sC fC ⊢
  replace e0 := sC.kp.itR e0
  replace e1 := sC.kp.itR e1
  replace e2 := sC.kp.itR e2
  replace e3 := sC.kp.itR e3
  replace e4 := sC.kp.itR e4
  replace e5 := sC.kp.itR e5
  replace e6 := sC.kp.itR e6
  replace e7 := sC.kp.itR e7
  replace e8 := sC.kp.itR e8
  replace e9 := sC.kp.itR e9
  replace e10 := sC.kp.itR e10
  replace aa := aa.trans sC
  cases b with
  | true =>
    refine ⟨_, rfl, _, rfl, iteT ⟨_, rfl, ?_⟩⟩
    refine ⟨by show 3 ≤ sizeLine; decide, fun t11 ht11 => ?_⟩
    have s11 : Same GC (upd GC t11 (.tup [V.str "untimes", .int 1, .int 1])) := same_new ht11
    have e11 : ItR K (upd GC t11 (.tup [V.str "untimes", .int 1, .int 1])) 11 (.ref t11) := ⟨t11, rfl, SqT.of upd_same⟩
    generalize upd GC t11 (.tup [V.str "untimes", .int 1, .int 1]) = G11 at s11 e11 ⊢
    replace e0 := s11.kp.itR e0
    replace e1 := s11.kp.itR e1
    replace e2 := s11.kp.itR e2
    replace e3 := s11.kp.itR e3
    replace e4 := s11.kp.itR e4
    replace e5 := s11.kp.itR e5
    replace e6 := s11.kp.itR e6
    replace e7 := s11.kp.itR e7
    replace e8 := s11.kp.itR e8
    replace e9 := s11.kp.itR e9
    replace e10 := s11.kp.itR e10
    replace aa := aa.trans s11
    have fC' := s11 _ _ fC
    refine ⟨by show 1 ≤ sizeLine; decide, fun ld hld => ?_⟩
    have sD : Same G11 (upd G11 ld (.lst [V.ref t11])) := same_new hld
    have fD : upd G11 ld (.lst [V.ref t11]) ld = some (.lst [V.ref t11]) := upd_same
    generalize upd G11 ld (.lst [V.ref t11]) = GD at sD fD ⊢
    replace e0 := sD.kp.itR e0
    replace e1 := sD.kp.itR e1
    replace e2 := sD.kp.itR e2
    replace e3 := sD.kp.itR e3
    replace e4 := sD.kp.itR e4
    replace e5 := sD.kp.itR e5
    replace e6 := sD.kp.itR e6
    replace e7 := sD.kp.itR e7
    replace e8 := sD.kp.itR e8
    replace e9 := sD.kp.itR e9
    replace e10 := sD.kp.itR e10
    replace e11 := sD.kp.itR e11
    replace aa := aa.trans sD
    replace fC' := sD _ _ fC'
    refine ⟨lc, ld, _, _, rfl, rfl, fC', fD, by show 12 ≤ sizeLine; decide, fun le hle => ?_⟩
    have sE := same_new (o := .lst ([V.ref t0, V.ref t1, V.ref t2, V.ref t3, V.ref t4, V.ref t5, V.ref t6, V.ref t7, V.ref t8, V.ref t9, V.ref t10] ++ [V.ref t11])) hle
    refine q le _ _ (aa.trans sE) (aa.none hle) upd_same (Lk.mono ?_ fun d v h => sE.kp.itR h)
    exact (Lk.cons e0 (Lk.cons e1 (Lk.cons e2 (Lk.cons e3 (Lk.cons e4 (Lk.cons e5 (Lk.cons e6 (Lk.cons e7 (Lk.cons e8 (Lk.cons e9 (Lk.cons e10 (Lk.cons e11 Lk.nil))))))))))))
  | false =>
    refine ⟨_, rfl, _, rfl, iteF ⟨_, rfl, ?_⟩⟩
    refine ⟨by show 3 ≤ sizeLine; decide, fun t11 ht11 => ?_⟩
    have s11 : Same GC (upd GC t11 (.tup [V.str "untimes", .int 1, .int 1])) := same_new ht11
    have e11 : ItR K (upd GC t11 (.tup [V.str "untimes", .int 1, .int 1])) 11 (.ref t11) := ⟨t11, rfl, SqT.of upd_same⟩
    generalize upd GC t11 (.tup [V.str "untimes", .int 1, .int 1]) = G11 at s11 e11 ⊢
    replace e0 := s11.kp.itR e0
    replace e1 := s11.kp.itR e1
    replace e2 := s11.kp.itR e2
    replace e3 := s11.kp.itR e3
    replace e4 := s11.kp.itR e4
    replace e5 := s11.kp.itR e5
    replace e6 := s11.kp.itR e6
    replace e7 := s11.kp.itR e7
    replace e8 := s11.kp.itR e8
    replace e9 := s11.kp.itR e9
    replace e10 := s11.kp.itR e10
    replace aa := aa.trans s11
    refine ⟨by show 3 ≤ sizeLine; decide, fun t12 ht12 => ?_⟩
    have s12 : Same G11 (upd G11 t12 (.tup [V.str "one", .int 0, .int 1])) := same_new ht12
    have e12 : ItR K (upd G11 t12 (.tup [V.str "one", .int 0, .int 1])) 12 (.ref t12) := ⟨t12, rfl, SqT.of upd_same⟩
    generalize upd G11 t12 (.tup [V.str "one", .int 0, .int 1]) = G12 at s12 e12 ⊢
    replace e0 := s12.kp.itR e0
    replace e1 := s12.kp.itR e1
    replace e2 := s12.kp.itR e2
    replace e3 := s12.kp.itR e3
    replace e4 := s12.kp.itR e4
    replace e5 := s12.kp.itR e5
    replace e6 := s12.kp.itR e6
    replace e7 := s12.kp.itR e7
    replace e8 := s12.kp.itR e8
    replace e9 := s12.kp.itR e9
    replace e10 := s12.kp.itR e10
    replace e11 := s12.kp.itR e11
    replace aa := aa.trans s12
    refine ⟨by show 3 ≤ sizeLine; decide, fun t13 ht13 => ?_⟩
    have s13 : Same G12 (upd G12 t13 (.tup [V.str "unone", .int 1, .int 0])) := same_new ht13
    have e13 : ItR K (upd G12 t13 (.tup [V.str "unone", .int 1, .int 0])) 13 (.ref t13) := ⟨t13, rfl, SqT.of upd_same⟩
    generalize upd G12 t13 (.tup [V.str "unone", .int 1, .int 0]) = G13 at s13 e13 ⊢
    replace e0 := s13.kp.itR e0
    replace e1 := s13.kp.itR e1
    replace e2 := s13.kp.itR e2
    replace e3 := s13.kp.itR e3
    replace e4 := s13.kp.itR e4
    replace e5 := s13.kp.itR e5
    replace e6 := s13.kp.itR e6
    replace e7 := s13.kp.itR e7
    replace e8 := s13.kp.itR e8
    replace e9 := s13.kp.itR e9
    replace e10 := s13.kp.itR e10
    replace e11 := s13.kp.itR e11
    replace e12 := s13.kp.itR e12
    replace aa := aa.trans s13
    have fC' := (s11.trans (s12.trans s13)) _ _ fC
    refine ⟨by show 3 ≤ sizeLine; decide, fun ld hld => ?_⟩
    have sD : Same G13 (upd G13 ld (.lst [V.ref t11, V.ref t12, V.ref t13])) := same_new hld
    have fD : upd G13 ld (.lst [V.ref t11, V.ref t12, V.ref t13]) ld = some (.lst [V.ref t11, V.ref t12, V.ref t13]) := upd_same
    generalize upd G13 ld (.lst [V.ref t11, V.ref t12, V.ref t13]) = GD at sD fD ⊢
    replace e0 := sD.kp.itR e0
    replace e1 := sD.kp.itR e1
    replace e2 := sD.kp.itR e2
    replace e3 := sD.kp.itR e3
    replace e4 := sD.kp.itR e4
    replace e5 := sD.kp.itR e5
    replace e6 := sD.kp.itR e6
    replace e7 := sD.kp.itR e7
    replace e8 := sD.kp.itR e8
    replace e9 := sD.kp.itR e9
    replace e10 := sD.kp.itR e10
    replace e11 := sD.kp.itR e11
    replace e12 := sD.kp.itR e12
    replace e13 := sD.kp.itR e13
    replace aa := aa.trans sD
    replace fC' := sD _ _ fC'
    refine ⟨lc, ld, _, _, rfl, rfl, fC', fD, by show 14 ≤ sizeLine; decide, fun le hle => ?_⟩
    have sE := same_new (o := .lst ([V.ref t0, V.ref t1, V.ref t2, V.ref t3, V.ref t4, V.ref t5, V.ref t6, V.ref t7, V.ref t8, V.ref t9, V.ref t10] ++ [V.ref t11, V.ref t12, V.ref t13])) hle
    refine q le _ _ (aa.trans sE) (aa.none hle) upd_same (Lk.mono ?_ fun d v h => sE.kp.itR h)
    exact (Lk.cons e0 (Lk.cons e1 (Lk.cons e2 (Lk.cons e3 (Lk.cons e4 (Lk.cons e5 (Lk.cons e6 (Lk.cons e7 (Lk.cons e8 (Lk.cons e9 (Lk.cons e10 (Lk.cons e11 (Lk.cons e12 (Lk.cons e13 Lk.nil))))))))))))))
end K9

set_option maxHeartbeats 4000000
namespace K9
open PySem PySem.Spec L2
theorem it_dp {K : PySem.W.Frag} {H : Hp} : ∀ {ws : List V}, (∀ v ∈ ws, ∃ i, i < 14 ∧ ItR K H i v) → ∃ ds, DpAll K H ws ds ∧ PyData.canLayAll0 ds = true ∧ PyData.depthAll ds ≤ 1 ∧ ds.isEmpty = ws.isEmpty
  | [], _ => ⟨[], .nil, by simp [PyData.canLayAll0], by simp [PyData.depthAll], rfl⟩
  | v :: ws, h => by
    obtain ⟨ds, h1, h2, h3, _⟩ := it_dp (ws := ws) fun v hv => h v (by simp [hv])
    obtain ⟨i, hi, p, rfl, hp⟩ := h v (by simp)
    refine ⟨.tuple [.str (word i), .int (eL i : Int), .int (eR i : Int)] :: ds, .cons (.tup hp (.cons (.str _) (.cons (.int _) (.cons (.int _) .nil)))) h1, ?_, ?_, rfl⟩
    · simp only [PyData.canLayAll0, PyData.canLay0, w_lt hi, h2, Bool.and_self]
    · simp only [PyData.depthAll, PyData.depth]
      omega
theorem sh_l1 {ds : List PyData} (h : PyData.canLayAll0 ds = true) (hd : PyData.depthAll ds ≤ 40) : SeqAt.shaped (.list ds) = true := by
  have z : (PyData.list ds).depth ≤ 64 := by
    simp only [PyData.depth]
    omega
  simp only [SeqAt.shaped, PyData.canLay0, h, Bool.true_and, decide_eq_true_eq]
  exact z
theorem menu_lt : ∀ b : Bool, ∀ i ∈ (if b = true then [0, 1, 2, 3, 4, 5, 6, 7, 8, 9, 10, 11] else [0, 1, 2, 3, 4, 5, 6, 7, 8, 9, 10, 11, 12, 13]), i < 14 := by decide
theorem menu_35 : ∀ b : Bool, ((if b = true then [0, 1, 2, 3, 4, 5, 6, 7, 8, 9, 10, 11] else [0, 1, 2, 3, 4, 5, 6, 7, 8, 9, 10, 11, 12, 13] : List Nat))[3]? = some 3 ∧ ((if b = true then [0, 1, 2, 3, 4, 5, 6, 7, 8, 9, 10, 11] else [0, 1, 2, 3, 4, 5, 6, 7, 8, 9, 10, 11, 12, 13] : List Nat))[5]? = some 5 := by decide
theorem e_pos : ∀ i, i < 14 → 1 ≤ eL i + eR i := by decide +kernel
/-- all small boxes -/
def Flt : List D → Prop
  | [] => True
  | d :: ps => (∃ i k, d = .bx i k) ∧ Flt ps
theorem Flt.app : ∀ {ps qs : List D}, Flt ps → Flt qs → Flt (ps ++ qs)
  | [], _, _, h => h
  | d :: ps, _, h, h' => ⟨h.1, Flt.app h.2 h'⟩
theorem Flt.sz : ∀ {ps : List D}, Flt ps → szs ps = ps.length ∧ deps ps ≤ 1
  | [], _ => by simp [szs, deps]
  | d :: ps, h => by
    obtain ⟨⟨i, k, rfl⟩, h2⟩ := h
    obtain ⟨h3, h4⟩ := Flt.sz h2
    simp only [szs, deps, K9.sz, dep, h3, List.length_cons]
    omega
/-- a drawing with those ends: one row of small boxes -/
def spLevel (K : PySem.W.Frag) : Sp := fun vs H Q _ => ∃ (t : Kd) (l r : Nat) (b : Bool), vs = [.ref t.dk, .int (l : Int), .int (r : Int), .bl b] ∧ l ≤ 16 ∧ r ≤ 16 ∧ Dk H t ∧ ∀ v d H', DS t H H' → Dr K H' d v → Tp d l r → sz d ≤ 1 + l + r → dep d ≤ 1 → Q v H'
abbrev s_law_level : Stmt := top 39
abbrev N_law_level : List Str := ["_law_deck_here", "_law_left", "_law_right", "_law_is_plain", "_law_found", "_law_most", "_law_goal", "_law_turn", "_law_fits", "_law_word", "_law_takes", "_law_gives", "_law_item"]
theorem sc_law_level : FnScope N_law_level ["_law_deck_here", "_law_left", "_law_right", "_law_is_plain"] (C8.fnScope s_law_level) := C8.fnScope_by (by decide +kernel)
theorem ok_law_level {P : Program} {w : World} {K : PySem.W.Frag} {mg : Str → Option Value} {base : Heap} (T : Tp0 w K mg) (F : D0 K mg "_law_level" s_law_level ["_law_deck_here", "_law_left", "_law_right", "_law_is_plain"])
    (c_law_draw : C8.Cal P w K mg base 1 "_law_draw" spDraw []) (c_law_pick : C8.Cal P w K mg base 2 "_law_pick" spPick []) (c_law_menu : C8.Cal P w K mg base 1 "_law_menu" (spMenu K) []) : C8.Cal P w K mg base 3 "_law_level" (spLevel K) [] := by
  refine F.ok sc_law_level (fun vs H Q E h => ?_) (fun f cdv A outer s H vs Q E hr h => ?_)
  · obtain ⟨_, _, _, _, rfl, _⟩ := h
    rfl
  obtain ⟨t, l, r, b, rfl, hl, hr', hk, q⟩ := h
  refine ⟨_, (pss_cons (ps_asg (pe_tup (pa_cons (pe_lst pa_nil) (pa_cons (pv 1) (pa_cons (pv 2) pa_nil)))) (pg_tup rfl (pgs_cons (pg_name (i := 4) sc_law_level.nd rfl (Or.inl rfl)) (pgs_cons (pg_name (i := 5) sc_law_level.nd rfl (Or.inr rfl)) (pgs_cons (pg_name (i := 6) sc_law_level.nd rfl (Or.inr rfl)) pgs_nil)))))
    (pss_cons (ps_for PassesOwn.never rfl (pi_range1 rfl T.range (pa_cons (pe_op op_add (pv 1) (pv 2)) pa_nil)) (pg_name (i := 7) sc_law_level.nd rfl (Or.inl rfl))
      (pss_cons (ps_setLc (i := 8) (own := [("_law_item", 12)]) (g := gName 12) rfl sc_law_level.nd rfl rfl (sw_true rfl rfl rfl (by decide +kernel)) (pi_list (C8.pe_c c_law_menu hr (by omega) rfl (pa_cons (pv 3) pa_nil))) (blkOk_by (N := N_law_level) (sc := C8.fnScope s_law_level) (by decide +kernel)) (fun _ _ _ _ _ => (pg_name (i := 12) sc_law_level.nd rfl (Or.inl rfl))) (fun _ _ _ _ _ => (pts_one (PW.pt (pw_and (pt_cmpR op_le (pe_ix (r := rIxT K) ix_tup (pv 12) pe_int (fun _ _ => rfl)) (pv 5) (nomark _)) (pw_and1 (pt_cmpR op_le (pe_ix (r := rIxT K) ix_tup (pv 12) pe_int (fun _ _ => rfl)) (pv 6) (nomark _))))))) (fun _ _ _ _ _ => (pv 12)))
        (pss_one (ps_if (pt_cmpR (op_neD hr.units) (pv 8) (pe_lst pa_nil) (nomark _))
          (pss_cons (ps_asg (C8.pe_c c_law_pick hr (by omega) rfl (pa_cons (pv 0) (pa_cons (pv 8) pa_nil))) (pg_tup rfl (pgs_cons (pg_name (i := 9) sc_law_level.nd rfl (Or.inl rfl)) (pgs_cons (pg_name (i := 10) sc_law_level.nd rfl (Or.inl rfl)) (pgs_cons (pg_name (i := 11) sc_law_level.nd rfl (Or.inl rfl)) pgs_nil)))))
            (pss_cons (ps_expr (pe_bm PySem.F.plainAttrs_list PySem.F.slot_list_append PySem.F.type_list_append mt_append (pv 4) (pa_cons (pe_ifExp (pt_cmpR op_in_seq (pv 9) (pe_tup (pa_cons pe_str (pa_cons pe_str pa_nil))) (by rfl)) (pe_tup (pa_cons (pv 9) (pa_cons (C8.pe_c c_law_draw hr (by omega) rfl (pa_cons (pv 0) (pa_cons pe_int pa_nil))) pa_nil))) (pe_tup (pa_cons (pv 9) pa_nil))) pa_nil)))
            (pss_one (ps_asg (pe_tup (pa_cons (pe_op op_sub (pv 5) (pv 10)) (pa_cons (pe_op op_sub (pv 6) (pv 11)) pa_nil))) (pg_tup rfl (pgs_cons (pg_name (i := 5) sc_law_level.nd rfl (Or.inr rfl)) (pgs_cons (pg_name (i := 6) sc_law_level.nd rfl (Or.inr rfl)) pgs_nil)))))))
          pss_nil))))
    (pss_one (ps_ret (pe_ifExp (pt_cmpR op_eq (pe_callB call_len_seq rfl T.len bo_len (pa_cons (pv 4) pa_nil)) pe_int (nomark _)) (pe_ix (r := rIxL K) ix_list (pv 4) pe_int (fun _ _ => rfl)) (pe_tup (pa_cons pe_str (pa_cons (pe_callTy call_tuple_of rfl T.tuple bo_tuple (pa_cons (pv 4) pa_nil)) pa_nil)))))))), ?_⟩
  refine ⟨Nat.zero_le _, fun fo hfo => ?_⟩
  have s1 : Same H (upd H fo (.lst [])) := same_new hfo
  have ef : upd H fo (.lst []) fo = some (.lst []) := upd_same
  generalize upd H fo (.lst []) = H1 at s1 ef
  refine ⟨_, rfl, _, rfl, by show 3 ≤ sizeLine; decide, fun t0 ht0 => ?_⟩
  have s2 := same_new (o := .tup [.ref fo, .int (l : Int), .int (r : Int)]) ht0
  refine ⟨t0, _, rfl, SqT.of upd_same, rfl, _, _, rfl, _, _, rfl, _, _, rfl, rfl, ?_⟩
  have d0 := DS.of hk (s1.trans s2)
  have ef2 := s2 _ _ ef
  generalize upd H1 t0 (.tup [.ref fo, .int (l : Int), .int (r : Int)]) = H2 at s2 d0 ef2
  obtain ⟨k1, k2, k3⟩ := hk.ne hfo
  refine ⟨_, rfl, _, rfl, _, _, rfl, rfl, _, rfl, by omega, by omega, ?_⟩
  refine for_range (lo := 0) (n := ((l : Int) + (r : Int)).toNat) (fun i σ H' => ∃ (y7 y8 y9 y10 y11 y12 : Option V) (most goal : Nat) (ps : List D) (xs : List V), σ = [some (.ref t.dk), some (.int (l : Int)), some (.int (r : Int)), some (.bl b), some (.ref fo), some (.int (most : Int)), some (.int (goal : Int)), y7, y8, y9, y10, y11, y12] ∧ DS t H H' ∧ H' fo = some (.lst xs) ∧
    Drs K H' ps xs ∧ Flt ps ∧ Bs ps (l - most) (r - goal) ∧ most ≤ l ∧ goal ≤ r ∧ ps.length ≤ i ∧ most + goal ≤ l + r - i) ⟨_, _, _, _, _, _, l, r, [], [], rfl, d0, ef2, .nil, trivial, by simp [Bs], Nat.le_refl _, Nat.le_refl _, Nat.le_refl _, by omega⟩ (fun i σ H' hi hP => ?_) (fun σ H' hP => ?_)
  · obtain ⟨y7, y8, y9, y10, y11, y12, most, goal, ps, xs, rfl, d1, efo, hx, hf, hB, hm, hg, hpl, hmg⟩ := hP
    have hxl := hx.len
    refine ⟨_, rfl, b, rfl, fun ml ms H3 s3 hml eml hms => ⟨_, rfl, ⟨_, SqL.of eml⟩, fun wo hwo => ?_⟩⟩
    refine lc_list (xs := ms) (fun j H4 => Same H3 H4 ∧ ∃ ws : List V, H4 wo = some (.lst ws) ∧ (∀ v ∈ ws, ∃ i, i < 14 ∧ ItR K H4 i v ∧ eL i ≤ most ∧ eR i ≤ goal) ∧ ws.length ≤ j ∧ ((1 ≤ most → 4 ≤ j → ws ≠ []) ∧ (1 ≤ goal → 6 ≤ j → ws ≠ []))) ⟨same_new hwo, [], upd_same, by simp, Nat.le_refl _, by omega, by omega⟩ (fun j H4 hj hP => SqL.of (hP.1 _ _ eml)) (fun j x H4 ex hP => ?_) (fun H4 hP => ?_)
    · obtain ⟨s4, ws, ew, hws, hwl, hn1, hn2⟩ := hP
      obtain ⟨i', ei, p, rfl, hp⟩ := hms.back ex
      have hi14 := menu_lt b i' (List.mem_of_getElem? ei)
      have hp4 := s4.tup hp
      have hjl := (List.getElem?_eq_some_iff.mp ex).1
      have hml' := hms.len
      have hml'' : ms.length ≤ 14 := by
        rw [hml']
        cases b <;> decide
      refine ⟨rfl, _, rfl, _, _, _, _, rfl, rfl, hp4, rfl, _, rfl, _, _, rfl, rfl, _, rfl, ?_⟩
      have stop : ¬ (eL i' ≤ most ∧ eR i' ≤ goal) → Same H3 H4 ∧ ∃ ws : List V, H4 wo = some (.lst ws) ∧ (∀ v ∈ ws, ∃ i, i < 14 ∧ ItR K H4 i v ∧ eL i ≤ most ∧ eR i ≤ goal) ∧ ws.length ≤ j + 1 ∧ ((1 ≤ most → 4 ≤ j + 1 → ws ≠ []) ∧ (1 ≤ goal → 6 ≤ j + 1 → ws ≠ [])) := by
        intro no
        refine ⟨s4, ws, ew, hws, by omega, fun h1 h2 => ?_, fun h1 h2 => ?_⟩
        · by_cases z : 4 ≤ j
          · exact hn1 h1 z
          · have : j = 3 := by omega
            subst this
            rw [(menu_35 b).1] at ei
            cases ei
            exact absurd ⟨h1, Nat.zero_le _⟩ no
        · by_cases z : 6 ≤ j
          · exact hn2 h1 z
          · have : j = 5 := by omega
            subst this
            rw [(menu_35 b).2] at ei
            cases ei
            exact absurd ⟨Nat.zero_le _, h1⟩ no
      by_cases c1 : eL i' ≤ most
      · rw [decide_eq_true (by omega : (eL i' : Int) ≤ (most : Int))]
        refine iteT ⟨_, rfl, _, _, _, _, rfl, rfl, hp4, rfl, _, rfl, _, _, rfl, rfl, _, rfl, ?_⟩
        by_cases c2 : eR i' ≤ goal
        · rw [decide_eq_true (by omega : (eR i' : Int) ≤ (goal : Int))]
          refine iteT ⟨_, rfl, ws, ew, lt_size (by omega), s4.mut hwo, ws ++ [.ref p], upd_same, ?_, by simp; omega, by simp, by simp⟩
          have kk := kp_lst (o := .lst (ws ++ [.ref p])) ew
          intro v hv
          rcases List.mem_append.mp hv with hv | hv
          · obtain ⟨i, h1, h2, h3⟩ := hws v hv
            exact ⟨i, h1, kk.itR h2, h3⟩
          · have : v = .ref p := by simpa using hv
            subst this
            exact ⟨i', hi14, kk.itR ⟨p, rfl, hp4⟩, c1, c2⟩
        · rw [decide_eq_false (by omega : ¬ (eR i' : Int) ≤ (goal : Int))]
          exact iteF (stop fun z => c2 z.2)
      · rw [decide_eq_false (by omega : ¬ (eL i' : Int) ≤ (most : Int))]
        exact iteF (stop fun z => c1 z.1)
    · obtain ⟨s4, ws, ew, hws, hwl, hn1, hn2⟩ := hP
      have hml' := hms.len
      have hml'' : 12 ≤ ms.length ∧ ms.length ≤ 14 := by
        rw [hml']
        cases b <;> decide
      have hn1 := fun h => hn1 h (by omega)
      have hn2 := fun h => hn2 h (by omega)
      have d4 := d1.same (s3.trans s4)
      have hx4 := (s3.trans s4).drs hx
      have efo4 := (s3.trans s4) _ _ efo
      have hwon : H wo = none := (d1.same s3).none hwo
      obtain ⟨w1, w2, w3⟩ := hk.ne hwon
      refine ⟨_, rfl, Nat.zero_le _, fun l0 hl0 => ?_⟩
      have s5 : Same H4 (upd H4 l0 (.lst [])) := same_new hl0
      have e5 : upd H4 l0 (.lst []) l0 = some (.lst []) := upd_same
      generalize upd H4 l0 (.lst []) = H5 at s5 e5
      have hws5 : ∀ v ∈ ws, ∃ i, i < 14 ∧ ItR K H5 i v := fun v hv => by
        obtain ⟨i, h1, h2, _⟩ := hws v hv
        exact ⟨i, h1, s5.kp.itR h2⟩
      obtain ⟨ds, g1, g2, g3, g4⟩ := it_dp hws5
      refine ⟨.list ds, .list [], .lst (SqL.of (s5 _ _ ew)) g1, .lst (SqL.of e5) .nil, sh_l1 g2 (by omega), by decide, _, rfl, ?_⟩
      rw [eqv_ni, g4]
      have d5 := d4.same s5
      by_cases hwe : ws = []
      · rw [show (!ws.isEmpty) = false by rw [hwe]; rfl]
        have z1 : ¬ 1 ≤ most := fun h => hn1 h hwe
        have z2 : ¬ 1 ≤ goal := fun h => hn2 h hwe
        exact iteF ⟨_, _, _, _, _, _, most, goal, ps, xs, rfl, d5, s5 _ _ efo4, s5.drs hx4, hf, hB, hm, hg, by omega, by omega⟩
      · rw [show (!ws.isEmpty) = true by cases ws with | nil => exact absurd rfl hwe | cons a b => rfl]
        refine iteT ⟨_, rfl, _, rfl, t, wo, ws, rfl, d5.2.2, s5 _ _ ew, hwe, by omega, w1, w2, fun v H6 hv d6 => ?_⟩
        obtain ⟨i', hi14, ⟨p, rfl, hp⟩, c1, c2⟩ := hws v hv
        have hp6 := d6.2.1.tup (s5.tup hp)
        have d06 := d5.trans d6
        have efo6 := d6.keep (s5 _ _ efo4) k1 k2
        have hx6 := d6.drs (s5.drs hx4)
        refine ⟨p, _, rfl, hp6, rfl, _, _, rfl, _, _, rfl, _, _, rfl, rfl, ?_⟩
        have ae : eL i' + eR i' ≥ 1 := e_pos i' hi14
        -- what is added, what is left
        have step : ∀ (k : Nat) (bp : Addr) (H7 : Hp), BxOk i' k → DS t H H7 → H7 fo = some (.lst xs) → Drs K H7 ps xs → SqT K H7 bp (bv i' k) →
            DS t H (upd H7 fo (.lst (xs ++ [.ref bp]))) ∧ Drs K (upd H7 fo (.lst (xs ++ [.ref bp]))) (ps ++ [.bx i' k]) (xs ++ [.ref bp]) ∧ Flt (ps ++ [.bx i' k]) ∧ Bs (ps ++ [.bx i' k]) (l - (most - eL i')) (r - (goal - eR i')) := by
          intro k bp H7 ok d7 e7 hx7 hb7
          have k8 : Kp H7 (upd H7 fo (.lst (xs ++ [.ref bp]))) := kp_lst e7
          refine ⟨d7.mut hk hfo, (k8.drs hx7).app (Drs.one ?_), hf.app ⟨⟨i', k, rfl⟩, trivial⟩, ?_⟩
          · simp only [Dr]
            exact ⟨bp, rfl, k8.tup hb7⟩
          · have hb1 : Bs [.bx i' k] (eL i') (eR i') := by
              simp only [Bs, Tp]
              exact ⟨_, _, 0, 0, ⟨ok, rfl, rfl⟩, ⟨rfl, rfl⟩, by omega, by omega⟩
            have := Bs_app hB hb1
            have z1 : l - most + eL i' = l - (most - eL i') := by omega
            have z2 : r - goal + eR i' = r - (goal - eR i') := by omega
            rw [z1, z2] at this
            exact this
        have em : (most : Int) - (eL i' : Int) = ((most - eL i' : Nat) : Int) := by omega
        have eg : (goal : Int) - (eR i' : Int) = ((goal - eR i' : Nat) : Int) := by omega
        refine ⟨_, rfl, .inl ⟨rfl, _, SqL.of efo6⟩, _, rfl, by show 2 ≤ sizeLine; decide, fun tt htt => ?_⟩
        have s7 : Same H6 (upd H6 tt (.tup [.str "times", .str "untimes"])) := same_new htt
        refine ⟨tt, _, rfl, .inr (SqT.of upd_same), rfl, rfl, _, rfl, ?_⟩
        rw [if_neg (by decide), show inV (V.str (word i')) [V.str "times", V.str "untimes"] = isnum i' from num_in i' hi14]
        generalize upd H6 tt (.tup [.str "times", .str "untimes"]) = H7 at s7
        have d07 := d06.same s7
        have efo7 := s7 _ _ efo6
        have hx7 := s7.drs hx6
        cases hn : isnum i' with
        | true =>
          refine iteT ⟨_, rfl, _, rfl, t, 7, rfl, by omega, by omega, d07.2.2, fun k H8 hk7 d8 => ⟨by show 2 ≤ sizeLine; decide, fun bp hbp => ?_⟩⟩
          have s9 := same_new (o := .tup [.str (word i'), .int (k : Int)]) hbp
          have d09 := (d07.trans d8).same s9
          have efo9 := s9 _ _ (d8.keep efo7 k1 k2)
          have hx9 := s9.drs (d8.drs hx7)
          have hb9 : SqT K (upd H8 bp (.tup [.str (word i'), .int (k : Int)])) bp (bv i' k) := by
            unfold bv
            rw [hn]
            exact SqT.of upd_same
          obtain ⟨f1, f2, f3, f4⟩ := step k bp _ ⟨hi14, by omega, fun z => by rw [hn] at z; cases z⟩ d09 efo9 hx9 hb9
          generalize upd H8 bp (.tup [.str (word i'), .int (k : Int)]) = H9 at efo9 f1 f2
          refine ⟨fo, xs, _, rfl, rfl, efo9, lt_size (by omega), ?_⟩
          have efo10 : upd H9 fo (.lst (xs ++ [.ref bp])) fo = some (.lst (xs ++ [.ref bp])) := upd_same
          generalize upd H9 fo (.lst (xs ++ [.ref bp])) = H10 at f1 f2 efo10
          refine ⟨_, rfl, _, rfl, _, _, rfl, rfl, _, rfl, _, rfl, _, _, rfl, rfl, by show 2 ≤ sizeLine; decide, fun t9 ht9 => ?_⟩
          have s11 := same_new (o := .tup [.int ((most : Int) - (eL i' : Int)), .int ((goal : Int) - (eR i' : Int))]) ht9
          refine ⟨t9, _, rfl, SqT.of upd_same, rfl, _, _, rfl, _, _, rfl, rfl, ?_⟩
          exact ⟨_, _, _, _, _, _, most - eL i', goal - eR i', ps ++ [.bx i' k], xs ++ [.ref bp], by rw [← em, ← eg]; rfl, f1.same s11, s11 _ _ efo10, s11.drs f2, f3, f4, by omega, by omega, by simp; omega, by omega⟩
        | false =>
          refine iteF ⟨_, rfl, by show 1 ≤ sizeLine; decide, fun bp hbp => ?_⟩
          have s9 := same_new (o := .tup [.str (word i')]) hbp
          have d09 := d07.same s9
          have efo9 := s9 _ _ efo7
          have hx9 := s9.drs hx7
          have hb9 : SqT K (upd H7 bp (.tup [.str (word i')])) bp (bv i' 0) := by
            unfold bv
            rw [hn]
            exact SqT.of upd_same
          obtain ⟨f1, f2, f3, f4⟩ := step 0 bp _ ⟨hi14, by omega, fun z => rfl⟩ d09 efo9 hx9 hb9
          generalize upd H7 bp (.tup [.str (word i')]) = H9 at efo9 f1 f2
          refine ⟨fo, xs, _, rfl, rfl, efo9, lt_size (by omega), ?_⟩
          have efo10 : upd H9 fo (.lst (xs ++ [.ref bp])) fo = some (.lst (xs ++ [.ref bp])) := upd_same
          generalize upd H9 fo (.lst (xs ++ [.ref bp])) = H10 at f1 f2 efo10
          refine ⟨_, rfl, _, rfl, _, _, rfl, rfl, _, rfl, _, rfl, _, _, rfl, rfl, by show 2 ≤ sizeLine; decide, fun t9 ht9 => ?_⟩
          have s11 := same_new (o := .tup [.int ((most : Int) - (eL i' : Int)), .int ((goal : Int) - (eR i' : Int))]) ht9
          refine ⟨t9, _, rfl, SqT.of upd_same, rfl, _, _, rfl, _, _, rfl, rfl, ?_⟩
          exact ⟨_, _, _, _, _, _, most - eL i', goal - eR i', ps ++ [.bx i' 0], xs ++ [.ref bp], by rw [← em, ← eg]; rfl, f1.same s11, s11 _ _ efo10, s11.drs f2, f3, f4, by omega, by omega, by simp; omega, by omega⟩
  · obtain ⟨y7, y8, y9, y10, y11, y12, most, goal, ps, xs, rfl, d1, efo, hx, hf, hB, hm, hg, hpl, hmg⟩ := hP
    have m0 : most = 0 := by omega
    have g0 : goal = 0 := by omega
    subst m0 g0
    simp only [Nat.sub_zero] at hB
    have hxl := hx.len
    obtain ⟨z1, z2⟩ := hf.sz
    refine ⟨_, rfl, _, _, rfl, .inl (SqL.of efo), rfl, _, rfl, ?_⟩
    by_cases c : ps.length = 1
    · rw [hxl, c]
      obtain ⟨d0, rfl⟩ := List.length_eq_one_iff.mp c
      simp only [Drs] at hx
      obtain ⟨v0, r0, rfl, g1, rfl⟩ := hx
      have hT : Tp d0 l r := by
        simp only [Bs] at hB
        obtain ⟨l1, r1, l2, r2, h1, ⟨rfl, rfl⟩, rfl, rfl⟩ := hB
        exact h1
      simp only [szs, deps] at z1 z2
      simp only [List.length_cons, List.length_nil] at z1
      exact iteT ⟨_, rfl, _, _, _, _, rfl, rfl, SqL.of efo, rfl, q v0 d0 _ d1 g1 hT (by omega) (by omega)⟩
    · rw [decide_eq_false (by simp only [V.int.injEq]; omega)]
      refine iteF ⟨_, rfl, _, _, rfl, .inl ⟨SqL.of efo, fun t2 ht2 => ⟨by show 2 ≤ sizeLine; decide, fun t3 ht3 => ?_⟩⟩⟩
      have s2 := same_new (o := .tup xs) ht2
      have s3 := same_new (o := .tup [.str ("beside" : Str), .ref t2]) ht3
      refine q (.ref t3) (.br false ps) _ ((d1.same s2).same s3) ?_ ?_ ?_ ?_
      · simp only [Dr]
        exact ⟨t3, t2, xs, rfl, SqT.of upd_same, s3.tup (SqT.of upd_same), (s2.trans s3).drs hx⟩
      · simp only [Tp]
        exact ⟨hB, hl, hr'⟩
      · simp only [sz]
        omega
      · simp only [dep]
        omega
end K9

set_option maxHeartbeats 4000000
namespace K9
open PySem PySem.Spec L2
theorem dr_br {K : PySem.W.Frag} {H : Hp} {b : Bool} {ps : List D} {vs : List V} {t p : Addr} (h : SqT K H t [.str (kw b), .ref p]) (h1 : SqT K H p vs) (h2 : Drs K H ps vs) : Dr K H (.br b ps) (.ref t) := by
  simp only [Dr]
  exact ⟨t, p, vs, rfl, h, h1, h2⟩
theorem drs2 {K : PySem.W.Frag} {H : Hp} {d e : D} {v u : V} (h : Dr K H d v) (h' : Dr K H e u) : Drs K H [d, e] [v, u] := (Drs.one h).app (Drs.one h')
theorem Tp_t1 {d : D} {l r : Nat} (h : Tp d l r) : Tp (.br true [d]) l r := by
  have := Tp_le h
  simp only [Tp, Ch]
  exact ⟨by simp, ⟨r, h, rfl⟩, this.1, this.2⟩
theorem Tp_f1 {d : D} {l r : Nat} (h : Tp d l r) : Tp (.br false [d]) l r := by
  have := Tp_le h
  simp only [Tp, Bs]
  exact ⟨⟨l, r, 0, 0, h, ⟨rfl, rfl⟩, rfl, rfl⟩, this.1, this.2⟩
theorem Tp_f2 {d e : D} {l r l' r' : Nat} (h : Tp d l r) (h' : Tp e l' r') (hl : l + l' ≤ 16) (hr : r + r' ≤ 16) : Tp (.br false [d, e]) (l + l') (r + r') := by
  simp only [Tp, Bs]
  exact ⟨⟨l, r, l', r', h, ⟨l', r', 0, 0, h', ⟨rfl, rfl⟩, rfl, rfl⟩, rfl, rfl⟩, hl, hr⟩
theorem Tp_t2 {d e : D} {l m r : Nat} (h : Tp d l m) (h' : Tp e m r) : Tp (.br true [d, e]) l r := by
  have z1 := Tp_le h
  have z2 := Tp_le h'
  simp only [Tp, Ch]
  exact ⟨by simp, ⟨m, h, r, h', rfl⟩, z1.1, z2.2⟩
theorem Tp_f0 {d : D} {l r : Nat} (h : Tp d l r) : Tp (.br false [E0D, d]) l r := by
  have z := Tp_le h
  have := Tp_f2 Tp_E0 h (by omega) (by omega)
  simpa using this
theorem vint2 {x : V} {a b : Int} (h : a = b) : [x, V.int a] = [x, V.int b] := by rw [h]
theorem vint6 {x y : V} {a b a1 b1 a2 b2 a3 b3 : Int} (h : a = b) (h1 : a1 = b1) (h2 : a2 = b2) (h3 : a3 = b3) : [x, V.int a, V.int a1, V.int a2, V.int a3, y] = [x, V.int b, V.int b1, V.int b2, V.int b3, y] := by rw [h, h1, h2, h3]
/-- a bracket more, or none -/
def spLoose (K : PySem.W.Frag) : Sp := fun vs H Q _ => ∃ (t : Kd) (v : V) (d : D) (l r : Nat), vs = [.ref t.dk, v] ∧ Dk H t ∧ Dr K H d v ∧ Tp d l r ∧ ∀ v' d' H', DS t H H' → Dr K H' d' v' → Tp d' l r → sz d' ≤ sz d + 2 → dep d' ≤ dep d + 1 → Q v' H'
abbrev s_law_loose : Stmt := top 40
abbrev N_law_loose : List Str := ["_law_deck_here", "_law_sketch", "_law_turn"]
theorem sc_law_loose : FnScope N_law_loose ["_law_deck_here", "_law_sketch"] (C8.fnScope s_law_loose) := C8.fnScope_by (by decide +kernel)
theorem ok_law_loose {P : Program} {w : World} {K : PySem.W.Frag} {mg : Str → Option Value} {base : Heap} (T : Tp0 w K mg) (F : D0 K mg "_law_loose" s_law_loose ["_law_deck_here", "_law_sketch"])
    (c_law_draw : C8.Cal P w K mg base 1 "_law_draw" spDraw []) : C8.Cal P w K mg base 2 "_law_loose" (spLoose K) [] := by
  refine F.ok sc_law_loose (fun vs H Q E h => ?_) (fun f cdv A outer s H vs Q E hr h => ?_)
  · obtain ⟨_, _, _, _, _, rfl, _⟩ := h
    rfl
  obtain ⟨t, v, d, l, r, rfl, hk, hD, hT, q⟩ := h
  refine ⟨_, (pss_cons (ps_set (i := 2) sc_law_loose.nd rfl (Or.inl rfl) (C8.pe_c c_law_draw hr (by omega) rfl (pa_cons (pv 0) (pa_cons pe_int pa_nil))))
    (pss_cons (ps_if (pt_cmpR op_eq (pv 2) pe_int (nomark _))
      (pss_one (ps_ret (pe_tup (pa_cons pe_str (pa_cons (pe_tup (pa_cons (pv 1) pa_nil)) pa_nil)))))
      pss_nil)
    (pss_cons (ps_if (pt_cmpR op_eq (pv 2) pe_int (nomark _))
      (pss_one (ps_ret (pe_tup (pa_cons pe_str (pa_cons (pe_tup (pa_cons (pv 1) pa_nil)) pa_nil)))))
      pss_nil)
    (pss_one (ps_ret (pe_ifExp (pt_cmpR op_eq (pv 2) pe_int (nomark _)) (pe_tup (pa_cons pe_str (pa_cons (pe_tup (pa_cons (pe_tup (pa_cons pe_str (pa_cons (pe_tup pa_nil) pa_nil))) (pa_cons (pv 1) pa_nil))) pa_nil))) (pv 1))))))), ?_⟩
  refine ⟨_, rfl, t, 10, rfl, by omega, by omega, hk, fun k H1 hk1 d1 => ?_⟩
  have hD1 := d1.dr hD
  refine ⟨_, rfl, rfl, _, rfl, ?_⟩
  by_cases c0 : k = 0
  · subst c0
    refine iteT ⟨_, rfl, by show 1 ≤ sizeLine; decide, fun p hp => ⟨by show 2 ≤ sizeLine; decide, fun t2 ht2 => ?_⟩⟩
    have s2 := same_new (o := .tup [v]) hp
    have s3 := same_new (o := .tup [.str ("behind" : Str), .ref p]) ht2
    exact q _ (.br true [d]) _ ((d1.same s2).same s3) (dr_br (SqT.of upd_same) (s3.tup (SqT.of upd_same)) (Drs.one ((s2.trans s3).dr hD1))) (Tp_t1 hT) (by simp only [sz, szs]; omega) (by simp only [dep, deps]; omega)
  rw [decide_eq_false (by simp only [V.int.injEq]; omega)]
  refine iteF ⟨_, rfl, rfl, _, rfl, ?_⟩
  by_cases c1 : k = 1
  · subst c1
    refine iteT ⟨_, rfl, by show 1 ≤ sizeLine; decide, fun p hp => ⟨by show 2 ≤ sizeLine; decide, fun t2 ht2 => ?_⟩⟩
    have s2 := same_new (o := .tup [v]) hp
    have s3 := same_new (o := .tup [.str ("beside" : Str), .ref p]) ht2
    exact q _ (.br false [d]) _ ((d1.same s2).same s3) (dr_br (SqT.of upd_same) (s3.tup (SqT.of upd_same)) (Drs.one ((s2.trans s3).dr hD1))) (Tp_f1 hT) (by simp only [sz, szs]; omega) (by simp only [dep, deps]; omega)
  rw [decide_eq_false (by simp only [V.int.injEq]; omega)]
  refine iteF ⟨_, rfl, rfl, _, rfl, ?_⟩
  by_cases c2 : k = 2
  · subst c2
    refine iteT ⟨Nat.zero_le _, fun p0 hp0 => ⟨by show 2 ≤ sizeLine; decide, fun t0 ht0 => ⟨_, rfl, by show 2 ≤ sizeLine; decide, fun p hp => ⟨by show 2 ≤ sizeLine; decide, fun t2 ht2 => ?_⟩⟩⟩⟩
    have s0 := same_new (o := .tup []) hp0
    have s1 := same_new (o := .tup [.str ("beside" : Str), .ref p0]) ht0
    have s2 := same_new (o := .tup [.ref t0, v]) hp
    have s3 := same_new (o := .tup [.str ("beside" : Str), .ref p]) ht2
    have e0 : Dr K _ E0D (.ref t0) := dr_empty (K := K) (SqT.of upd_same) (s1.tup (SqT.of upd_same))
    exact q _ (.br false [E0D, d]) _ ((((d1.same s0).same s1).same s2).same s3) (dr_br (SqT.of upd_same) (s3.tup (SqT.of upd_same)) (drs2 ((s2.trans s3).dr e0) ((s0.trans (s1.trans (s2.trans s3))).dr hD1))) (Tp_f0 hT) (by simp only [sz, szs]; omega) (by simp only [dep, deps]; omega)
  rw [decide_eq_false (by simp only [V.int.injEq]; omega)]
  exact iteF ⟨_, rfl, q v d H1 d1 hD1 hT (by omega) (by omega)⟩
/-- a value's promise first, what is done with it then -/
theorem te_by {te : TE} {σ : L2.St} {H : Hp} {R : VK} (S : V → Hp → Prop) (h : ∀ R' : VK, (∀ x H', S x H' → R' x H') → te σ H R') (k : ∀ x H', S x H' → R x H') : te σ H R := h R k
def pz : Nat → Nat
  | 0 => 35
  | n + 1 => 2 * pz n + 3
theorem pz_ge : ∀ n, 35 ≤ pz n
  | 0 => Nat.le_refl _
  | n + 1 => by
    have := pz_ge n
    simp only [pz]
    omega
/-- a drawing with those ends -/
def spPiece (K : PySem.W.Frag) (n : Nat) : Sp := fun vs H Q _ => ∃ (t : Kd) (l r m sp : Nat) (b : Bool), vs = [.ref t.dk, .int (l : Int), .int (r : Int), .int (m : Int), .int (sp : Int), .bl b] ∧ l ≤ 8 ∧ r ≤ 8 ∧ sp ≤ 100 ∧ Dk H t ∧ m + 1 ≤ n ∧ ∀ v d H', DS t H H' → Dr K H' d v → Tp d l r → sz d ≤ pz m → dep d ≤ 2 + 2 * m → Q v H'
abbrev s_law_piece : Stmt := top 41
abbrev N_law_piece : List Str := ["_law_deck_here", "_law_left", "_law_right", "_law_deep", "_law_spare", "_law_is_plain", "_law_turn", "_law_mid", "_law_own", "_law_first", "_law_second", "_law_most", "_law_goal"]
theorem sc_law_piece : FnScope N_law_piece ["_law_deck_here", "_law_left", "_law_right", "_law_deep", "_law_spare", "_law_is_plain"] (C8.fnScope s_law_piece) := C8.fnScope_by (by decide +kernel)
theorem ok_law_piece {P : Program} {w : World} {K : PySem.W.Frag} {mg : Str → Option Value} {base : Heap} (T : Tp0 w K mg) (F : D0 K mg "_law_piece" s_law_piece ["_law_deck_here", "_law_left", "_law_right", "_law_deep", "_law_spare", "_law_is_plain"])
    (c_law_draw : C8.Cal P w K mg base 1 "_law_draw" spDraw []) (c_law_level : C8.Cal P w K mg base 3 "_law_level" (spLevel K) []) (c_law_loose : C8.Cal P w K mg base 2 "_law_loose" (spLoose K) []) : ∀ n, C8.Cal P w K mg base (n + 4) "_law_piece" (spPiece K n) []
  | 0 => F.vac fun vs H Q E h => by
    obtain ⟨_, _, _, _, _, _, _, _, _, _, _, h, _⟩ := h
    omega
  | n + 1 => by
    have c_law_piece := ok_law_piece (P := P) (base := base) T F c_law_draw c_law_level c_law_loose n
    refine F.ok sc_law_piece (fun vs H Q E h => ?_) (fun f cdv A outer s H vs Q E hr h => ?_)
    · obtain ⟨_, _, _, _, _, _, rfl, _⟩ := h
      rfl
    obtain ⟨t, l, r, m, sp, b, rfl, hl, hr8, hsp, hk, hm, q⟩ := h
    refine ⟨_, (pss_cons (ps_set (i := 6) sc_law_piece.nd rfl (Or.inl rfl) (C8.pe_c c_law_draw hr (by omega) rfl (pa_cons (pv 0) (pa_cons pe_int pa_nil))))
    (pss_cons (ps_if (PW.pt (pw_or (pt_cmpR op_eq (pv 3) pe_int (nomark _)) (pw_or1 (pt_cmpR op_eq (pv 6) pe_int (nomark _)))))
      (pss_one (ps_ret (C8.pe_c c_law_loose hr (by omega) rfl (pa_cons (pv 0) (pa_cons (C8.pe_c c_law_level hr (by omega) rfl (pa_cons (pv 0) (pa_cons (pv 1) (pa_cons (pv 2) (pa_cons (pv 5) pa_nil))))) pa_nil)))))
      pss_nil)
    (pss_cons (ps_if (pt_cmpR op_lt (pv 6) pe_int (nomark _))
      (pss_cons (ps_set (i := 7) sc_law_piece.nd rfl (Or.inl rfl) (pe_ifExp (PW.pt (pw_or (pt_cmpR op_lt (pv 4) pe_int (nomark _)) (pw_or1 (pt_cmpR op_eq (C8.pe_c c_law_draw hr (by omega) rfl (pa_cons (pv 0) (pa_cons pe_int pa_nil))) pe_int (nomark _))))) pe_int (pe_op op_add pe_int (C8.pe_c c_law_draw hr (by omega) rfl (pa_cons (pv 0) (pa_cons (pe_callB (call_min2 rfl) rfl T.min bo_min (pa_cons pe_int (pa_cons (pe_op op_fdivN (pv 4) pe_int) pa_nil))) pa_nil))))))
        (pss_cons (ps_set (i := 8) sc_law_piece.nd rfl (Or.inl rfl) (C8.pe_c c_law_draw hr (by omega) rfl (pa_cons (pv 0) (pa_cons (pe_op op_add (pe_op op_sub (pv 4) (pe_op op_mul pe_int (pv 7))) pe_int) pa_nil))))
        (pss_cons (ps_set (i := 9) sc_law_piece.nd rfl (Or.inl rfl) (C8.pe_c c_law_piece hr (by omega) rfl (pa_cons (pv 0) (pa_cons (pv 1) (pa_cons (pv 7) (pa_cons (pe_op op_sub (pv 3) pe_int) (pa_cons (pv 8) (pa_cons (pv 5) pa_nil))))))))
        (pss_cons (ps_set (i := 10) sc_law_piece.nd rfl (Or.inl rfl) (C8.pe_c c_law_piece hr (by omega) rfl (pa_cons (pv 0) (pa_cons (pv 7) (pa_cons (pv 2) (pa_cons (pe_op op_sub (pv 3) pe_int) (pa_cons (pe_op op_sub (pe_op op_sub (pv 4) (pe_op op_mul pe_int (pv 7))) (pv 8)) (pa_cons (pv 5) pa_nil))))))))
        (pss_one (ps_ret (C8.pe_c c_law_loose hr (by omega) rfl (pa_cons (pv 0) (pa_cons (pe_tup (pa_cons pe_str (pa_cons (pe_tup (pa_cons (pv 9) (pa_cons (pv 10) pa_nil))) pa_nil))) pa_nil)))))))))
      pss_nil)
    (pss_cons (ps_par3 (i := 11) (j := 12) (l := 8) rfl sc_law_piece.nd rfl rfl rfl (by decide) (by decide) (by decide) rfl rfl rfl (pa_cons (C8.pe_c c_law_draw hr (by omega) rfl (pa_cons (pv 0) (pa_cons (pe_op op_add (pv 1) pe_int) pa_nil))) (pa_cons (C8.pe_c c_law_draw hr (by omega) rfl (pa_cons (pv 0) (pa_cons (pe_op op_add (pv 2) pe_int) pa_nil))) (pa_cons (C8.pe_c c_law_draw hr (by omega) rfl (pa_cons (pv 0) (pa_cons (pe_op op_add (pv 4) pe_int) pa_nil))) pa_nil))) (by rfl))
    (pss_cons (ps_set (i := 9) sc_law_piece.nd rfl (Or.inl rfl) (C8.pe_c c_law_piece hr (by omega) rfl (pa_cons (pv 0) (pa_cons (pv 11) (pa_cons (pv 12) (pa_cons (pe_op op_sub (pv 3) pe_int) (pa_cons (pv 8) (pa_cons (pv 5) pa_nil))))))))
    (pss_cons (ps_set (i := 10) sc_law_piece.nd rfl (Or.inl rfl) (C8.pe_c c_law_piece hr (by omega) rfl (pa_cons (pv 0) (pa_cons (pe_op op_sub (pv 1) (pv 11)) (pa_cons (pe_op op_sub (pv 2) (pv 12)) (pa_cons (pe_op op_sub (pv 3) pe_int) (pa_cons (pe_op op_sub (pv 4) (pv 8)) (pa_cons (pv 5) pa_nil))))))))
    (pss_one (ps_ret (C8.pe_c c_law_loose hr (by omega) rfl (pa_cons (pv 0) (pa_cons (pe_tup (pa_cons pe_str (pa_cons (pe_tup (pa_cons (pv 9) (pa_cons (pv 10) pa_nil))) pa_nil))) pa_nil))))))))))), ?_⟩
    have h35 := pz_ge m
    refine ⟨_, rfl, t, 6, rfl, by omega, by omega, hk, fun k H1 hk1 d1 => ?_⟩
    have lev : tRet (tCall (spLoose K) [] C8.E0 (tCons (tVar 0) (tCons (tCall (spLevel K) [] C8.E0 (tCons (tVar 0) (tCons (tVar 1) (tCons (tVar 2) (tCons (tVar 5) tNil))))) tNil)))
        { nx := fun _ H' => Q .non H', rt := Q } [some (.ref t.dk), some (.int (l : Int)), some (.int (r : Int)), some (.int (m : Int)), some (.int (sp : Int)), some (.bl b), some (.int (k : Int)), none, none, none, none, none, none] H1 := by
      refine ⟨_, rfl, _, rfl, _, rfl, _, rfl, _, rfl, t, l, r, b, rfl, by omega, by omega, d1.2.2, fun v d H2 d2 hD hT hz hd => ?_⟩
      refine ⟨t, v, d, l, r, rfl, d2.2.2, hD, hT, fun v' d' H3 d3 hD' hT' hz' hd' => ?_⟩
      exact q v' d' H3 (d1.trans (d2.trans d3)) hD' hT' (by omega) (by omega)
    refine ⟨_, rfl, rfl, _, rfl, ?_⟩
    cases m with
    | zero => exact iteT lev
    | succ m =>
      rw [decide_eq_false (by simp only [V.int.injEq]; omega)]
      refine iteF ⟨_, rfl, rfl, _, rfl, ?_⟩
      by_cases c0 : k = 0
      · subst c0
        exact iteT lev
      rw [decide_eq_false (by simp only [V.int.injEq]; omega)]
      have ez : pz (m + 1) = 2 * pz m + 3 := rfl
      refine iteF ⟨_, rfl, _, _, rfl, rfl, _, rfl, ?_⟩
      by_cases c4 : k < 4
      · rw [decide_eq_true (by omega : (k : Int) < 4)]
        refine iteT ?_
        refine te_by (te := tIf _ _ _) (fun x H2 => ∃ mid : Nat, x = .int (mid : Int) ∧ DS t H H2 ∧ mid ≤ 3 ∧ 2 * mid ≤ sp) (fun R' kk => ?_) (fun x H2 hx => ?_)
        · refine ⟨_, rfl, _, _, rfl, rfl, _, rfl, ?_⟩
          by_cases c5 : sp < 2
          · rw [decide_eq_true (by omega : (sp : Int) < 2)]
            exact iteT (kk _ _ ⟨0, rfl, d1, by omega, by omega⟩)
          · rw [decide_eq_false (by omega : ¬ (sp : Int) < 2)]
            refine iteF ⟨_, rfl, t, 8, rfl, by omega, by omega, d1.2.2, fun j H2 hj d2 => ⟨rfl, _, rfl, ?_⟩⟩
            by_cases c6 : j = 0
            · subst c6
              exact iteT (kk _ _ ⟨0, rfl, d1.trans d2, by omega, by omega⟩)
            · rw [decide_eq_false (by simp only [V.int.injEq]; omega)]
              have ef : (sp : Int).fdiv 2 = ((sp / 2 : Nat) : Int) := by
                rw [Int.fdiv_eq_ediv_of_nonneg _ (by decide)]
                omega
              refine iteF ⟨_, rfl, _, rfl, _, _, rfl, rfl, ⟨by decide, by decide⟩, _, _, rfl, ?_⟩
              have em : (if (sp : Int).fdiv 2 < 3 then (sp : Int).fdiv 2 else 3) = ((if sp / 2 < 3 then sp / 2 else 3 : Nat) : Int) := by
                rw [ef]
                split <;> split <;> omega
              refine ⟨t, if sp / 2 < 3 then sp / 2 else 3, vint2 em, by split <;> omega, by split <;> omega, d2.2.2, fun j2 H3 hj2 d3 => ⟨_, _, rfl, rfl, ?_⟩⟩
              refine kk _ _ ⟨1 + j2, ?_, d1.trans (d2.trans d3), ?_, ?_⟩
              · show V.int (1 + (j2 : Int)) = _
                rw [show (1 + (j2 : Int)) = ((1 + j2 : Nat) : Int) by omega]
              · split at hj2 <;> omega
              · split at hj2 <;> omega
        · obtain ⟨mid, rfl, d2, h3, h2⟩ := hx
          refine ⟨_, rfl, _, rfl, _, rfl, _, _, rfl, rfl, .inl (by omega), _, _, rfl, rfl, _, _, rfl, rfl, t, sp - 2 * mid + 1, vint2 (by omega), by omega, by omega, d2.2.2, fun own H3 ho d3 => ?_⟩
          refine ⟨_, rfl, _, rfl, _, rfl, _, rfl, _, _, rfl, rfl, _, rfl, _, rfl, t, l, mid, m, own, b, vint6 rfl rfl (by omega) rfl, by omega, by omega, by omega, d3.2.2, by omega, fun v1 e1 H5 d5 hD1 hT1 hz1 hd1 => ?_⟩
          refine ⟨_, rfl, _, rfl, _, rfl, _, rfl, _, _, rfl, rfl, _, rfl, _, rfl, _, _, rfl, rfl, .inl (by omega), _, _, rfl, rfl, _, rfl, _, _, rfl, rfl, _, rfl, t, mid, r, m, sp - 2 * mid - own, b, vint6 rfl rfl (by omega) (by omega), by omega, by omega, by omega, d5.2.2, by omega, fun v2 e2 H6 d6 hD2 hT2 hz2 hd2 => ?_⟩
          refine ⟨_, rfl, _, rfl, _, rfl, by show 2 ≤ sizeLine; decide, fun p hp => ⟨by show 2 ≤ sizeLine; decide, fun t2 ht2 => ?_⟩⟩
          have s2 := same_new (o := .tup [v1, v2]) hp
          have s3 := same_new (o := .tup [.str ("behind" : Str), .ref p]) ht2
          have d8 := (d6.same s2).same s3
          refine ⟨t, .ref t2, .br true [e1, e2], l, r, rfl, d8.2.2, dr_br (SqT.of upd_same) (s3.tup (SqT.of upd_same)) (drs2 (d8.dr hD1) ((s2.trans s3).dr hD2)), Tp_t2 hT1 hT2, fun v' d' H9 d9 hD' hT' hz' hd' => ?_⟩
          simp only [sz, szs, dep, deps] at hz' hd'
          exact q v' d' H9 (d2.trans (d3.trans (d5.trans (d8.trans d9)))) hD' hT' (by omega) (by omega)
      · rw [decide_eq_false (by omega : ¬ (k : Int) < 4)]
        refine iteF ⟨_, rfl, _, rfl, _, _, rfl, rfl, t, l + 1, vint2 (by omega), by omega, by omega, d1.2.2, fun m1 H2 hm1 d2 => ?_⟩
        refine ⟨_, rfl, _, rfl, _, _, rfl, rfl, t, r + 1, vint2 (by omega), by omega, by omega, d2.2.2, fun m2 H3 hm2 d3 => ?_⟩
        refine ⟨_, rfl, _, rfl, _, _, rfl, rfl, t, sp + 1, vint2 (by omega), by omega, by omega, d3.2.2, fun own H4 ho d4 => ?_⟩
        have d14 := d1.trans (d2.trans (d3.trans d4))
        refine ⟨_, _, _, rfl, ?_⟩
        refine ⟨_, rfl, _, rfl, _, rfl, _, rfl, _, _, rfl, rfl, _, rfl, _, rfl, t, m1, m2, m, own, b, vint6 rfl rfl (by omega) rfl, by omega, by omega, by omega, d4.2.2, by omega, fun v1 e1 H5 d5 hD1 hT1 hz1 hd1 => ?_⟩
        refine ⟨_, rfl, _, rfl, _, rfl, _, _, rfl, rfl, _, rfl, _, rfl, _, _, rfl, rfl, _, rfl, _, _, rfl, rfl, _, rfl, _, rfl, _, _, rfl, rfl, _, rfl, t, l - m1, r - m2, m, sp - own, b, vint6 (by omega) (by omega) (by omega) (by omega), by omega, by omega, by omega, d5.2.2, by omega, fun v2 e2 H6 d6 hD2 hT2 hz2 hd2 => ?_⟩
        refine ⟨_, rfl, _, rfl, _, rfl, by show 2 ≤ sizeLine; decide, fun p hp => ⟨by show 2 ≤ sizeLine; decide, fun t2 ht2 => ?_⟩⟩
        have s2 := same_new (o := .tup [v1, v2]) hp
        have s3 := same_new (o := .tup [.str ("beside" : Str), .ref p]) ht2
        have d8 := (d6.same s2).same s3
        have hT := Tp_f2 hT1 hT2 (by omega) (by omega)
        rw [show m1 + (l - m1) = l by omega, show m2 + (r - m2) = r by omega] at hT
        refine ⟨t, .ref t2, .br false [e1, e2], l, r, rfl, d8.2.2, dr_br (SqT.of upd_same) (s3.tup (SqT.of upd_same)) (drs2 (d8.dr hD1) ((s2.trans s3).dr hD2)), hT, fun v' d' H9 d9 hD' hT' hz' hd' => ?_⟩
        simp only [sz, szs, dep, deps] at hz' hd'
        exact q v' d' H9 (d14.trans (d5.trans (d8.trans d9))) hD' hT' (by omega) (by omega)
end K9

set_option maxHeartbeats 4000000
namespace K9
open PySem PySem.Spec L2
/-! ### the ends, counted otherwise -/
theorem en_a : ∀ i, i < 14 → inV (.str (word i)) [.str ("wire" : Str), .str ("cross" : Str), .str ("times" : Str), .str ("untimes" : Str)] = true → if decide (V.str (word i) = V.str ("cross" : Str)) = true then eL i = 2 ∧ eR i = 2 else eL i = 1 ∧ eR i = 1 := by decide +kernel
theorem en_b : ∀ i, i < 14 → inV (.str (word i)) [.str ("copy" : Str), .str ("unadd" : Str)] = true → eL i = 1 ∧ eR i = 2 := by decide +kernel
theorem en_c : ∀ i, i < 14 → inV (.str (word i)) [.str ("add" : Str), .str ("uncopy" : Str)] = true → eL i = 2 ∧ eR i = 1 := by decide +kernel
theorem en_d0 : ∀ i, i < 14 → (inV (.str (word i)) [.str ("wire" : Str), .str ("cross" : Str), .str ("times" : Str), .str ("untimes" : Str)] || inV (.str (word i)) [.str ("copy" : Str), .str ("unadd" : Str)] || inV (.str (word i)) [.str ("add" : Str), .str ("uncopy" : Str)] ||
    bif inV (.str (word i)) [.str ("drop" : Str), .str ("unnought" : Str), .str ("unone" : Str)] then eL i == 1 && eR i == 0 else eL i == 0 && eR i == 1) = true := by decide +kernel
theorem en_d {i : Nat} (h : i < 14) (h1 : inV (.str (word i)) [.str ("wire" : Str), .str ("cross" : Str), .str ("times" : Str), .str ("untimes" : Str)] = false) (h2 : inV (.str (word i)) [.str ("copy" : Str), .str ("unadd" : Str)] = false) (h3 : inV (.str (word i)) [.str ("add" : Str), .str ("uncopy" : Str)] = false) :
    if inV (.str (word i)) [.str ("drop" : Str), .str ("unnought" : Str), .str ("unone" : Str)] = true then eL i = 1 ∧ eR i = 0 else eL i = 0 ∧ eR i = 1 := by
  have z := en_d0 i h
  rw [h1, h2, h3] at z
  cases c : inV (V.str (word i)) [V.str ("drop" : Str), V.str ("unnought" : Str), V.str ("unone" : Str)] with
  | true =>
    rw [c] at z
    simp at z
    rw [if_pos rfl]
    exact z
  | false =>
    rw [c] at z
    simp at z
    rw [if_neg (by decide)]
    exact z
/-- a new list of the two numbers -/
def spLEnds (K : PySem.W.Frag) : Sp := fun vs H Q _ => ∃ (v : V) (i k : Nat), vs = [v] ∧ Dr K H (.bx i k) v ∧ BxOk i k ∧ ∀ o H', Same H H' → H o = none → H' o = some (.lst [.int (eL i : Int), .int (eR i : Int)]) → Q (.ref o) H'
abbrev s_law_ends : Stmt := top 42
abbrev N_law_ends : List Str := ["_law_box", "_law_word"]
theorem sc_law_ends : FnScope N_law_ends ["_law_box"] (C8.fnScope s_law_ends) := C8.fnScope_by (by decide +kernel)
theorem ok_law_ends {P : Program} {w : World} {K : PySem.W.Frag} {mg : Str → Option Value} {base : Heap} (T : Tp0 w K mg) (F : D0 K mg "_law_ends" s_law_ends ["_law_box"]) : C8.Cal P w K mg base 1 "_law_ends" (spLEnds K) [] := by
  refine F.ok sc_law_ends (fun vs H Q E h => ?_) (fun f cdv A outer s H vs Q E hr h => ?_)
  · obtain ⟨_, _, _, rfl, _⟩ := h
    rfl
  obtain ⟨v, i, k, rfl, hD, hB, q⟩ := h
  refine ⟨_, (pss_cons (ps_set (i := 1) sc_law_ends.nd rfl (Or.inl rfl) (pe_ix (r := rIxT K) ix_tup (pv 0) pe_int (fun _ _ => rfl)))
    (pss_cons (ps_if (pt_cmpR op_in_seq (pv 1) (pe_tup (pa_cons pe_str (pa_cons pe_str (pa_cons pe_str (pa_cons pe_str pa_nil))))) (by rfl))
      (pss_one (ps_ret (pe_ifExp (pt_cmpR op_eq (pv 1) pe_str (nomark _)) (pe_lst (pa_cons pe_int (pa_cons pe_int pa_nil))) (pe_lst (pa_cons pe_int (pa_cons pe_int pa_nil))))))
      pss_nil)
    (pss_cons (ps_if (pt_cmpR op_in_seq (pv 1) (pe_tup (pa_cons pe_str (pa_cons pe_str pa_nil))) (by rfl))
      (pss_one (ps_ret (pe_lst (pa_cons pe_int (pa_cons pe_int pa_nil)))))
      pss_nil)
    (pss_cons (ps_if (pt_cmpR op_in_seq (pv 1) (pe_tup (pa_cons pe_str (pa_cons pe_str pa_nil))) (by rfl))
      (pss_one (ps_ret (pe_lst (pa_cons pe_int (pa_cons pe_int pa_nil)))))
      pss_nil)
    (pss_one (ps_ret (pe_ifExp (pt_cmpR op_in_seq (pv 1) (pe_tup (pa_cons pe_str (pa_cons pe_str (pa_cons pe_str pa_nil)))) (by rfl)) (pe_lst (pa_cons pe_int (pa_cons pe_int pa_nil))) (pe_lst (pa_cons pe_int (pa_cons pe_int pa_nil)))))))))), ?_⟩
  simp only [Dr] at hD
  obtain ⟨a, rfl, h1⟩ := hD
  have h14 := hB.1
  have fin : ∀ (x y : Nat) (H1 : Hp), Same H H1 → eL i = x → eR i = y → ∀ o, H1 o = none → Q (.ref o) (upd H1 o (.lst [.int (x : Int), .int (y : Int)])) := by
    intro x y H1 s1 rfl' rfl'' o ho
    subst rfl' rfl''
    exact q o _ (s1.trans (same_new ho)) (s1.none ho) upd_same
  refine ⟨_, rfl, _, _, _, _, rfl, rfl, h1, bv_at0 i k, ?_⟩
  refine ⟨_, rfl, by show 4 ≤ sizeLine; decide, fun t1 ht1 => ?_⟩
  have s1 : Same H (upd H t1 (.tup [.str "wire", .str "cross", .str "times", .str "untimes"])) := same_new ht1
  refine ⟨t1, _, rfl, .inr (SqT.of upd_same), rfl, rfl, _, rfl, ?_⟩
  rw [if_neg (by decide)]
  generalize upd H t1 (.tup [.str "wire", .str "cross", .str "times", .str "untimes"]) = H1 at s1
  cases c1 : inV (V.str (word i)) [V.str "wire", V.str "cross", V.str "times", V.str "untimes"] with
  | true =>
    have z := en_a i h14 c1
    refine iteT ⟨_, rfl, rfl, _, rfl, ?_⟩
    cases c2 : decide (V.str (word i) = V.str "cross") with
    | true =>
      rw [if_pos c2] at z
      exact iteT ⟨by show 2 ≤ sizeLine; decide, fun o ho => fin 2 2 H1 s1 z.1 z.2 o ho⟩
    | false =>
      rw [if_neg (by rw [c2]; decide)] at z
      exact iteF ⟨by show 2 ≤ sizeLine; decide, fun o ho => fin 1 1 H1 s1 z.1 z.2 o ho⟩
  | false =>
    refine iteF ⟨_, rfl, by show 2 ≤ sizeLine; decide, fun t2 ht2 => ?_⟩
    have s2 : Same H1 (upd H1 t2 (.tup [.str "copy", .str "unadd"])) := same_new ht2
    refine ⟨t2, _, rfl, .inr (SqT.of upd_same), rfl, rfl, _, rfl, ?_⟩
    rw [if_neg (by decide)]
    generalize upd H1 t2 (.tup [.str "copy", .str "unadd"]) = H2 at s2
    have s2 := s1.trans s2
    cases c2 : inV (V.str (word i)) [V.str "copy", V.str "unadd"] with
    | true =>
      have z := en_b i h14 c2
      exact iteT ⟨by show 2 ≤ sizeLine; decide, fun o ho => fin 1 2 H2 s2 z.1 z.2 o ho⟩
    | false =>
      refine iteF ⟨_, rfl, by show 2 ≤ sizeLine; decide, fun t3 ht3 => ?_⟩
      have s3 : Same H2 (upd H2 t3 (.tup [.str "add", .str "uncopy"])) := same_new ht3
      refine ⟨t3, _, rfl, .inr (SqT.of upd_same), rfl, rfl, _, rfl, ?_⟩
      rw [if_neg (by decide)]
      generalize upd H2 t3 (.tup [.str "add", .str "uncopy"]) = H3 at s3
      have s3 := s2.trans s3
      cases c3 : inV (V.str (word i)) [V.str "add", V.str "uncopy"] with
      | true =>
        have z := en_c i h14 c3
        exact iteT ⟨by show 2 ≤ sizeLine; decide, fun o ho => fin 2 1 H3 s3 z.1 z.2 o ho⟩
      | false =>
        have z := en_d h14 c1 c2 c3
        refine iteF ⟨_, rfl, by show 3 ≤ sizeLine; decide, fun t4 ht4 => ?_⟩
        have s4 : Same H3 (upd H3 t4 (.tup [.str "drop", .str "unnought", .str "unone"])) := same_new ht4
        refine ⟨t4, _, rfl, .inr (SqT.of upd_same), rfl, rfl, _, rfl, ?_⟩
        rw [if_neg (by decide)]
        generalize upd H3 t4 (.tup [.str "drop", .str "unnought", .str "unone"]) = H4 at s4
        have s4 := s3.trans s4
        cases c4 : inV (V.str (word i)) [V.str "drop", V.str "unnought", V.str "unone"] with
        | true =>
          rw [if_pos c4] at z
          exact iteT ⟨by show 2 ≤ sizeLine; decide, fun o ho => fin 1 0 H4 s4 z.1 z.2 o ho⟩
        | false =>
          rw [if_neg (by rw [c4]; decide)] at z
          exact iteF ⟨by show 2 ≤ sizeLine; decide, fun o ho => fin 0 1 H4 s4 z.1 z.2 o ho⟩
def PrR (H : Hp) (d : D) (v : V) : Prop := ∃ p, v = .ref p ∧ H p = some (.lst [.int ((en d).1 : Int), .int ((en d).2 : Int)])
theorem _root_.L2.Same.prR {H H' : Hp} (e : Same H H') {d : D} {v : V} (h : PrR H d v) : PrR H' d v := let ⟨p, e1, h⟩ := h; ⟨p, e1, e _ _ h⟩
/-- .. of a drawing -/
def spSides (K : PySem.W.Frag) (n : Nat) : Sp := fun vs H Q _ => ∃ (v : V) (d : D) (l r : Nat), vs = [v] ∧ Dr K H d v ∧ Tp d l r ∧ sz d ≤ 5000 ∧ dep d + 1 ≤ n ∧ ∀ o H', Same H H' → H o = none → H' o = some (.lst [.int (l : Int), .int (r : Int)]) → Q (.ref o) H'
theorem lst_upd {H : Hp} {o : Addr} {x : HO} {a : Addr} {u : HO} (n : a ≠ o) (h : H a = some u) : upd H o x a = some u := by rw [upd_ne n]; exact h
abbrev s_law_sides : Stmt := top 43
abbrev N_law_sides : List Str := ["_law_sketch", "_law_pairs", "_law_part", "_law_pair"]
theorem sc_law_sides : FnScope N_law_sides ["_law_sketch"] (C8.fnScope s_law_sides) := C8.fnScope_by (by decide +kernel)
theorem ok_law_sides {P : Program} {w : World} {K : PySem.W.Frag} {mg : Str → Option Value} {base : Heap} (T : Tp0 w K mg) (F : D0 K mg "_law_sides" s_law_sides ["_law_sketch"])
    (c_law_ends : C8.Cal P w K mg base 1 "_law_ends" (spLEnds K) []) : ∀ n, C8.Cal P w K mg base (n + 2) "_law_sides" (spSides K n) []
  | 0 => F.vac fun vs H Q E h => by
    obtain ⟨_, _, _, _, _, _, _, _, h, _⟩ := h
    omega
  | n + 1 => by
    have c_law_sides := ok_law_sides (P := P) (base := base) T F c_law_ends n
    refine F.ok sc_law_sides (fun vs H Q E h => ?_) (fun f cdv A outer s H vs Q E hr h => ?_)
    · obtain ⟨_, _, _, _, rfl, _⟩ := h
      rfl
    obtain ⟨v, d, l, r, rfl, hD, hT, hz, hn, q⟩ := h
    refine ⟨_, (pss_cons (ps_if (pt_cmpR op_notIn_seq (pe_ix (r := rIxT K) ix_tup (pv 0) pe_int (fun _ _ => rfl)) (pe_tup (pa_cons pe_str (pa_cons pe_str pa_nil))) (by rfl))
      (pss_one (ps_ret (C8.pe_c c_law_ends hr (by omega) rfl (pa_cons (pv 0) pa_nil))))
      pss_nil)
    (pss_cons (ps_setLc (i := 1) (own := [("_law_part", 2)]) (g := gName 2) (tt := tYes) rfl sc_law_sides.nd rfl rfl (sw_true rfl rfl rfl (by decide +kernel)) (pi_tup (pe_ix (r := rIxT K) ix_tup (pv 0) pe_int (fun _ _ => rfl))) (blkOk_by (N := N_law_sides) (sc := C8.fnScope s_law_sides) (by decide +kernel)) (fun _ _ _ _ _ => (pg_name (i := 2) sc_law_sides.nd rfl (Or.inl rfl))) (fun _ _ _ _ _ => pts_nil) (fun _ _ _ _ _ => (C8.pe_c c_law_sides hr (by omega) rfl (pa_cons (pv 2) pa_nil))))
    (pss_cons (ps_if (pt_cmpR op_eq (pe_ix (r := rIxT K) ix_tup (pv 0) pe_int (fun _ _ => rfl)) pe_str (nomark _))
      (pss_one (ps_ret (pe_lst (pa_cons (pe_ix (r := rIxL K) ix_list (pe_ix (r := rIxL K) ix_list (pv 1) pe_int (fun _ _ => rfl)) pe_int (fun _ _ => rfl)) (pa_cons (pe_ix (r := rIxL K) ix_list (pe_ix (r := rIxL K) ix_list (pv 1) (pe_un un_neg pe_int) (fun _ _ => rfl)) pe_int (fun _ _ => rfl)) pa_nil)))))
      pss_nil)
    (pss_one (ps_ret (pe_lst (pa_cons (pe_callB (cr_sum rfl) rfl T.sum bo_sum (pa_cons (pe_lc (own := [("_law_pair", 3)]) (g := gName 3) (tt := tYes) rfl sc_law_sides.nd (pi_list (pv 1)) (blkOk_by (N := N_law_sides) (sc := C8.fnScope s_law_sides) (by decide +kernel)) (fun _ _ _ _ _ => (pg_name (i := 3) sc_law_sides.nd rfl (Or.inl rfl))) (fun _ _ _ _ _ => pts_nil) (fun _ _ _ _ _ => (pe_ix (r := rIxL K) ix_list (pv 3) pe_int (fun _ _ => rfl)))) pa_nil)) (pa_cons (pe_callB (cr_sum rfl) rfl T.sum bo_sum (pa_cons (pe_lc (own := [("_law_pair", 3)]) (g := gName 3) (tt := tYes) rfl sc_law_sides.nd (pi_list (pv 1)) (blkOk_by (N := N_law_sides) (sc := C8.fnScope s_law_sides) (by decide +kernel)) (fun _ _ _ _ _ => (pg_name (i := 3) sc_law_sides.nd rfl (Or.inl rfl))) (fun _ _ _ _ _ => pts_nil) (fun _ _ _ _ _ => (pe_ix (r := rIxL K) ix_list (pv 3) pe_int (fun _ _ => rfl)))) pa_nil)) pa_nil)))))))), ?_⟩
    have hB := Tp_BxA hT
    obtain ⟨a0, xs0, rfl, t1, t2⟩ := hD.at0
    refine ⟨_, rfl, _, _, _, _, rfl, rfl, t1, t2, (by show 2 ≤ sizeLine; decide), fun t ht => ?_⟩
    have s1 : Same H (upd H t (.tup [.str "behind", .str "beside"])) := same_new ht
    refine ⟨t, _, rfl, .inr (SqT.of upd_same), rfl, rfl, _, rfl, ?_⟩
    rw [if_pos rfl, show (!inV (V.str (hw d)) [V.str "behind", V.str "beside"]) = !isBr d from hw_inN hB]
    generalize upd H t (.tup [.str "behind", .str "beside"]) = H1 at s1
    have hen := Tp_en hT
    cases d with
    | bx i k =>
      simp only [Tp] at hT
      obtain ⟨hb, rfl, rfl⟩ := hT
      exact iteT ⟨_, rfl, _, i, k, rfl, s1.dr hD, hb, fun o H' s2 ho eo => q o H' (s1.trans s2) (s1.none ho) eo⟩
    | br b ps =>
      have hD1 := s1.dr hD
      simp only [Dr] at hD1
      obtain ⟨a, p, vs, ea, h1, h2, h3⟩ := hD1
      cases ea
      have hlen := h3.len
      have hls := len_szs ps
      simp only [sz] at hz
      simp only [dep] at hn
      refine iteF ⟨_, rfl, _, _, _, _, rfl, rfl, h1, rfl, _, rfl, ⟨_, h2⟩, fun o ho => ?_⟩
      refine lc_tup (xs := vs) (fun i H' => Same H1 H' ∧ ∃ ss, H' o = some (.lst ss) ∧ Lk (PrR H') (ps.take i) ss ∧ ∀ v ∈ ss, v ≠ .ref o) ⟨same_new ho, [], upd_same, .nil, by simp⟩ (fun i H' hi hP => hP.1.tup h2) (fun i x H' ex hP => ?_) (fun H' hP => ?_)
      · obtain ⟨e, ss, eo, hs, hne⟩ := hP
        obtain ⟨d', ed, hd'⟩ := h3.get ex
        obtain ⟨l', r', hT'⟩ := kids hT i d' ed
        have k1 := dep_kid ed
        have k2 := sz_kid ed
        have k3 := hs.len
        rw [List.length_take] at k3
        refine ⟨rfl, tyes ⟨_, rfl, x, d', l', r', rfl, e.dr hd', hT', by omega, by omega, fun p2 H2 s2 hp2 ep2 => ?_⟩⟩
        have nop : p2 ≠ o := fun z => by
          subst z
          rw [eo] at hp2
          cases hp2
        refine ⟨ss, s2 _ _ eo, lt_size (by omega), (e.trans s2).mut ho, _, upd_same, ?_, ?_⟩
        · refine Lk.snoc (d := d') ?_ ed ⟨p2, rfl, ?_⟩
          · refine ⟨hs.len, fun j y ey => ?_⟩
            obtain ⟨u, f1, p3, rfl, f2⟩ := hs.get j y ey
            exact ⟨_, f1, p3, rfl, lst_upd (fun z => hne _ (List.mem_of_getElem? f1) (by rw [z])) (s2 _ _ f2)⟩
          · rw [Tp_en hT']
            exact lst_upd nop ep2
        · intro u hu
          rcases List.mem_append.mp hu with hu | hu
          · exact hne u hu
          · have : u = .ref p2 := by simpa using hu
            subst this
            intro z
            cases z
            exact nop rfl
      · obtain ⟨e, ss, eo, hs, _⟩ := hP
        have hs := hs.full (by omega)
        have hsl := hs.len
        refine ⟨_, rfl, _, _, _, _, rfl, rfl, e.tup h1, rfl, rfl, _, rfl, ?_⟩
        rw [show decide (V.str (kw b) = V.str "behind") = b from kw_eqB b]
        cases b with
        | true =>
          have hne := tp_ne hT rfl
          have hpos : 0 < ps.length := List.length_pos_iff.mpr hne
          have e0 : ps[0]? = some ps[0] := List.getElem?_eq_getElem hpos
          have e1 : ps[ps.length - 1]? = some (ps[ps.length - 1]'(by omega)) := List.getElem?_eq_getElem (by omega)
          obtain ⟨v0, f0, p0, rfl, g0⟩ := hs.get 0 _ e0
          obtain ⟨v1, f1, p1, rfl, g1⟩ := hs.get _ _ e1
          rw [← hsl] at f1
          simp only [en, Prod.mk.injEq] at hen
          refine iteT ⟨_, rfl, _, _, _, _, rfl, rfl, SqL.of eo, atI_nat (j := 0) f0, _, _, _, _, rfl, rfl, SqL.of g0, rfl, _, rfl, 1, rfl, _, _, _, _, rfl, rfl, SqL.of eo, atI_last1 f1, _, _, _, _, rfl, rfl, SqL.of g1, rfl, by show 2 ≤ sizeLine; decide, fun t ht => ?_⟩
          refine q t _ (s1.trans (e.trans (same_new ht))) ((s1.trans e).none ht) ?_
          rw [upd_same, ← hen.1, ← hen.2, enL_at e0, enR_at e1]
        | false =>
          simp only [en, Prod.mk.injEq] at hen
          refine iteF ⟨_, rfl, o, rfl, ⟨_, SqL.of eo⟩, fun o1 ho1 => ?_⟩
          refine lc_list (xs := ss) (fun i H2 => Same H' H2 ∧ H2 o1 = some (.lst (((ps.take i).map fun d => ((en d).1 : Int)).map V.int))) ⟨same_new ho1, upd_same⟩ (fun i H2 hi hP => SqL.of (hP.1 _ _ eo)) (fun i x H2 ex hP => ?_) (fun H2 hP => ?_)
          · obtain ⟨e2, eo1⟩ := hP
            obtain ⟨d', ed, p2, rfl, hp2⟩ := hs.back ex
            have k4 := (List.getElem?_eq_some_iff.mp ed).1
            refine ⟨rfl, tyes ⟨_, rfl, _, _, _, _, rfl, rfl, SqL.of (e2 _ _ hp2), rfl, _, eo1, lt_size (by simp [List.length_take]; omega), e2.mut ho1, ?_⟩⟩
            rw [upd_same, List.take_add_one, ed, List.map_append, List.map_append]
            rfl
          · obtain ⟨e2, eo1⟩ := hP
            rw [List.take_of_length_le (by omega)] at eo1
            refine ⟨_, _, rfl, SqL.of eo1, ?_⟩
            have eo2 := e2 _ _ eo
            refine ⟨_, rfl, o, rfl, ⟨_, SqL.of eo2⟩, fun o2 ho2 => ?_⟩
            refine lc_list (xs := ss) (fun i H3 => Same H2 H3 ∧ H3 o2 = some (.lst (((ps.take i).map fun d => ((en d).2 : Int)).map V.int))) ⟨same_new ho2, upd_same⟩ (fun i H3 hi hP => SqL.of (hP.1 _ _ eo2)) (fun i x H3 ex hP => ?_) (fun H3 hP => ?_)
            · obtain ⟨e3, eo3⟩ := hP
              obtain ⟨d', ed, p2, rfl, hp2⟩ := hs.back ex
              have k4 := (List.getElem?_eq_some_iff.mp ed).1
              refine ⟨rfl, tyes ⟨_, rfl, _, _, _, _, rfl, rfl, SqL.of ((e2.trans e3) _ _ hp2), rfl, _, eo3, lt_size (by simp [List.length_take]; omega), e3.mut ho2, ?_⟩⟩
              rw [upd_same, List.take_add_one, ed, List.map_append, List.map_append]
              rfl
            · obtain ⟨e3, eo3⟩ := hP
              rw [List.take_of_length_le (by omega)] at eo3
              refine ⟨_, _, rfl, SqL.of eo3, by show 2 ≤ sizeLine; decide, fun t ht => ?_⟩
              refine q t _ (s1.trans (e.trans (e2.trans (e3.trans (same_new ht))))) ((s1.trans (e.trans (e2.trans e3))).none ht) ?_
              rw [upd_same, ← hen.1, ← hen.2, sumL_eq, sumR_eq]
end K9

set_option maxHeartbeats 4000000
namespace K9
open PySem PySem.Spec L2
/-! ### ways into a drawing -/
def sub : D → List Nat → Option D
  | d, [] => some d
  | .bx _ _, _ :: _ => none
  | .br _ ps, i :: w => match ps[i]? with
    | some d => sub d w
    | none => none
def put : D → List Nat → D → D
  | _, [], e => e
  | .bx i k, _ :: _, _ => .bx i k
  | .br b ps, i :: w, e => match ps[i]? with
    | some d => .br b (ps.set i (put d w e))
    | none => .br b ps
theorem sub_br {b : Bool} {ps : List D} {i : Nat} {w : List Nat} {s : D} (h : sub (.br b ps) (i :: w) = some s) : ∃ d, ps[i]? = some d ∧ sub d w = some s := by
  simp only [sub] at h
  cases c : ps[i]? with
  | none =>
    rw [c] at h
    cases h
  | some d =>
    rw [c] at h
    exact ⟨d, rfl, h⟩
theorem put_br {b : Bool} {ps : List D} {i : Nat} {w : List Nat} {d e : D} (h : ps[i]? = some d) : put (.br b ps) (i :: w) e = .br b (ps.set i (put d w e)) := by
  simp only [put, h]
theorem sub_dep : ∀ (w : List Nat) {d s : D}, sub d w = some s → w.length + dep s ≤ dep d ∧ sz s ≤ sz d
  | [], d, s, h => by
    simp only [sub] at h
    cases h
    simp
  | i :: w, .bx _ _, s, h => by simp [sub] at h
  | i :: w, .br b ps, s, h => by
    obtain ⟨d, h1, h2⟩ := sub_br h
    have ih := sub_dep w h2
    have k1 := dep_kid h1
    have k2 := sz_kid h1
    simp only [dep, sz, List.length_cons]
    omega
theorem sub_tp : ∀ (w : List Nat) {d s : D} {l r : Nat}, Tp d l r → sub d w = some s → ∃ l' r', Tp s l' r'
  | [], d, s, l, r, h, h' => by
    simp only [sub] at h'
    cases h'
    exact ⟨l, r, h⟩
  | i :: w, .bx _ _, s, l, r, h, h' => by simp [sub] at h'
  | i :: w, .br b ps, s, l, r, h, h' => by
    obtain ⟨d, h1, h2⟩ := sub_br h'
    obtain ⟨l1, r1, h3⟩ := kids h i d h1
    exact sub_tp w h3 h2
theorem Ch_set : ∀ {ps : List D} {l r i : Nat} {d e : D}, Ch ps l r → ps[i]? = some d → (∀ l r, Tp d l r → Tp e l r) → Ch (ps.set i e) l r
  | [], _, _, _, _, _, _, h, _ => by simp at h
  | x :: ps, l, r, 0, d, e, h, h1, f => by
    have z : x = d := by simpa using h1
    subst z
    simp only [Ch] at h
    obtain ⟨m, t1, t2⟩ := h
    simp only [List.set_cons_zero, Ch]
    exact ⟨m, f _ _ t1, t2⟩
  | x :: ps, l, r, i + 1, d, e, h, h1, f => by
    simp only [Ch] at h
    obtain ⟨m, t1, t2⟩ := h
    simp only [List.set_cons_succ, Ch]
    exact ⟨m, t1, Ch_set t2 (by simpa using h1) f⟩
theorem Bs_set : ∀ {ps : List D} {l r i : Nat} {d e : D}, Bs ps l r → ps[i]? = some d → (∀ l r, Tp d l r → Tp e l r) → Bs (ps.set i e) l r
  | [], _, _, _, _, _, _, h, _ => by simp at h
  | x :: ps, l, r, 0, d, e, h, h1, f => by
    have z : x = d := by simpa using h1
    subst z
    simp only [Bs] at h
    obtain ⟨l1, r1, l2, r2, t1, t2, t3⟩ := h
    simp only [List.set_cons_zero, Bs]
    exact ⟨l1, r1, l2, r2, f _ _ t1, t2, t3⟩
  | x :: ps, l, r, i + 1, d, e, h, h1, f => by
    simp only [Bs] at h
    obtain ⟨l1, r1, l2, r2, t1, t2, t3⟩ := h
    simp only [List.set_cons_succ, Bs]
    exact ⟨l1, r1, l2, r2, t1, Bs_set t2 (by simpa using h1) f, t3⟩
theorem put_tp : ∀ (w : List Nat) {d s e : D} {l r : Nat}, Tp d l r → sub d w = some s → (∀ l r, Tp s l r → Tp e l r) → Tp (put d w e) l r
  | [], d, s, e, l, r, h, h', f => by
    simp only [sub] at h'
    cases h'
    simp only [put]
    exact f _ _ h
  | i :: w, .bx _ _, s, e, l, r, h, h', f => by simp [sub] at h'
  | i :: w, .br b ps, s, e, l, r, h, h', f => by
    obtain ⟨d, h1, h2⟩ := sub_br h'
    rw [put_br h1]
    have k : ∀ l r, Tp d l r → Tp (put d w e) l r := fun l r h => put_tp w h h2 f
    cases b with
    | true =>
      simp only [Tp] at h ⊢
      exact ⟨fun z => h.1 (by simpa using z), Ch_set h.2.1 h1 k, h.2.2⟩
    | false =>
      simp only [Tp] at h ⊢
      exact ⟨Bs_set h.1 h1 k, h.2⟩
theorem szs_set : ∀ {ps : List D} {i : Nat} {d e : D}, ps[i]? = some d → szs (ps.set i e) + sz d = szs ps + sz e
  | [], _, _, _, h => by simp at h
  | x :: ps, 0, d, e, h => by
    have z : x = d := by simpa using h
    subst z
    simp only [List.set_cons_zero, szs]
    omega
  | x :: ps, i + 1, d, e, h => by
    have := szs_set (ps := ps) (i := i) (e := e) (d := d) (by simpa using h)
    simp only [List.set_cons_succ, szs]
    omega
theorem deps_set : ∀ {ps : List D} {i : Nat} {d e : D} {c : Nat}, ps[i]? = some d → dep e ≤ dep d + c → deps (ps.set i e) ≤ deps ps + c
  | [], _, _, _, _, h, _ => by simp at h
  | x :: ps, 0, d, e, c, h, f => by
    have z : x = d := by simpa using h
    subst z
    simp only [List.set_cons_zero, deps]
    omega
  | x :: ps, i + 1, d, e, c, h, f => by
    have := deps_set (ps := ps) (i := i) (e := e) (d := d) (by simpa using h) f
    simp only [List.set_cons_succ, deps]
    omega
theorem put_sz : ∀ (w : List Nat) {d s e : D}, sub d w = some s → sz (put d w e) ≤ sz d + sz e
  | [], d, s, e, h => by
    simp only [put]
    omega
  | i :: w, .bx _ _, s, e, h => by simp [sub] at h
  | i :: w, .br b ps, s, e, h => by
    obtain ⟨d, h1, h2⟩ := sub_br h
    have ih := put_sz w (e := e) h2
    have k := szs_set (e := put d w e) h1
    rw [put_br h1]
    simp only [sz]
    omega
theorem put_dep : ∀ (w : List Nat) {d s e : D} {c : Nat}, sub d w = some s → dep e ≤ dep s + c → dep (put d w e) ≤ dep d + c
  | [], d, s, e, c, h, f => by
    simp only [sub] at h
    cases h
    simp only [put]
    exact f
  | i :: w, .bx _ _, s, e, c, h, f => by simp [sub] at h
  | i :: w, .br b ps, s, e, c, h, f => by
    obtain ⟨d, h1, h2⟩ := sub_br h
    have ih := put_dep w (e := e) (c := c) h2 f
    rw [put_br h1]
    simp only [dep]
    exact deps_set h1 ih
mutual
theorem nb_sz : ∀ d : D, nb d ≤ sz d
  | .bx _ _ => by simp [nb, sz]
  | .br _ ps => by
    have := nbs_szs ps
    simp only [nb, sz]
    omega
theorem nbs_szs : ∀ ps : List D, nbs ps ≤ szs ps
  | [] => by simp [nbs]
  | d :: ps => by
    have h1 := nb_sz d
    have h2 := nbs_szs ps
    simp only [nbs, szs]
    omega
end
theorem szs_take1 : ∀ {ps : List D} {i : Nat} {d : D}, ps[i]? = some d → szs (ps.take (i + 1)) = szs (ps.take i) + sz d
  | [], _, _, h => by simp at h
  | x :: ps, 0, d, h => by
    have z : x = d := by simpa using h
    subst z
    simp [szs]
  | x :: ps, i + 1, d, h => by
    have z := szs_take1 (ps := ps) (i := i) (by simpa using h)
    simp only [List.take_succ_cons, szs, z]
    omega
/-- a way as items -/
def wv (w : List Nat) : List V := w.map fun i : Nat => V.int (i : Int)
theorem wv_app (w u : List Nat) : wv (w ++ u) = wv w ++ wv u := List.map_append
theorem wv_len (w : List Nat) : (wv w).length = w.length := List.length_map ..
def WyR (K : PySem.W.Frag) (H : Hp) (d : D) (path : List Nat) (x : V) : Prop := ∃ w p s, x = .ref p ∧ SqT K H p (wv (path ++ w)) ∧ sub d w = some s
theorem Kp.wyR {K : PySem.W.Frag} {H H' : Hp} {d : D} {path : List Nat} {x : V} (e : Kp H H') (h : WyR K H d path x) : WyR K H' d path x := by
  obtain ⟨w, p, s, rfl, h1, h2⟩ := h
  exact ⟨w, p, s, rfl, e.tup h1, h2⟩
/-- a new list of ways -/
def spWays (K : PySem.W.Frag) (n : Nat) : Sp := fun vs H Q _ => ∃ (v : V) (a : Addr) (d : D) (path : List Nat), vs = [v, .ref a] ∧ Dr K H d v ∧ SqT K H a (wv path) ∧ BxA d ∧ sz d ≤ 900 ∧ path.length + dep d ≤ 100 ∧ dep d + 1 ≤ n ∧
  ∀ l xs H', Same H H' → H l = none → H' l = some (.lst xs) → xs ≠ [] → xs.length ≤ sz d → (∀ x ∈ xs, WyR K H' d path x) → Q (.ref l) H'
abbrev s_law_ways : Stmt := top 45
abbrev N_law_ways : List Str := ["_law_sketch", "_law_path", "_law_found", "_law_at", "_law_part"]
theorem sc_law_ways : FnScope N_law_ways ["_law_sketch", "_law_path"] (C8.fnScope s_law_ways) := C8.fnScope_by (by decide +kernel)
theorem ok_law_ways {P : Program} {w : World} {K : PySem.W.Frag} {mg : Str → Option Value} {base : Heap} (T : Tp0 w K mg) (F : D0 K mg "_law_ways" s_law_ways ["_law_sketch", "_law_path"]) : ∀ n, C8.Cal P w K mg base (n + 2) "_law_ways" (spWays K n) []
  | 0 => F.vac fun vs H Q E h => by
    obtain ⟨_, _, _, _, _, _, _, _, _, _, h, _⟩ := h
    omega
  | n + 1 => by
    have c_law_ways : C8.Cal P w K mg base (n + 2) "_law_ways" (spWays K n) [] := ok_law_ways T F n
    refine F.ok sc_law_ways (fun vs H Q E h => ?_) (fun f cdv A outer s H vs Q E hr h => ?_)
    · obtain ⟨_, _, _, _, rfl, _⟩ := h
      rfl
    obtain ⟨v, a, d, path, rfl, hD, ha, hB, hz, hpd, hn, q⟩ := h
    refine ⟨_, (pss_cons (ps_set (i := 2) sc_law_ways.nd rfl (Or.inl rfl) (pe_lst (pa_cons (pv 1) pa_nil)))
    (pss_cons (ps_if (pt_cmpR op_in_seq (pe_ix (r := rIxT K) ix_tup (pv 0) pe_int (fun _ _ => rfl)) (pe_tup (pa_cons pe_str (pa_cons pe_str pa_nil))) (by rfl))
      (pss_one (ps_for PassesOwn.never rfl (pi_enT rfl T.enumerate (pa_cons (pe_ix (r := rIxT K) ix_tup (pv 0) pe_int (fun _ _ => rfl)) pa_nil)) (pg_tup rfl (pgs_cons (pg_name (i := 3) sc_law_ways.nd rfl (Or.inl rfl)) (pgs_cons (pg_name (i := 4) sc_law_ways.nd rfl (Or.inl rfl)) pgs_nil)))
          (pss_one (ps_set (i := 2) sc_law_ways.nd rfl (Or.inl rfl) (pe_op op_cat (pv 2) (C8.pe_c c_law_ways hr (by omega) rfl (pa_cons (pv 4) (pa_cons (pe_op op_catA (pv 1) (pe_tup (pa_cons (pv 3) pa_nil))) pa_nil))))))))
      pss_nil)
    (pss_one (ps_ret (pv 2))))), ?_⟩
    refine ⟨_, rfl, by show 1 ≤ sizeLine; decide, fun o ho => ?_⟩
    have s1 : Same H (upd H o (.lst [.ref a])) := same_new ho
    have eo : upd H o (.lst [.ref a]) o = some (.lst [.ref a]) := upd_same
    generalize upd H o (.lst [.ref a]) = H1 at s1 eo
    have hD1 := s1.dr hD
    obtain ⟨a0, xs0, rfl, t1, t2⟩ := hD1.at0
    refine ⟨_, rfl, _, _, _, _, rfl, rfl, t1, t2, (by show 2 ≤ sizeLine; decide), fun t ht => ?_⟩
    have s2 : Same H1 (upd H1 t (.tup [.str "behind", .str "beside"])) := same_new ht
    refine ⟨t, _, rfl, .inr (SqT.of upd_same), rfl, rfl, _, rfl, ?_⟩
    rw [if_neg (by decide), show inV (V.str (hw d)) [V.str "behind", V.str "beside"] = isBr d from hw_in hB]
    generalize upd H1 t (.tup [.str "behind", .str "beside"]) = H2 at s2
    have s12 := s1.trans s2
    have self : WyR K H2 d path (.ref a) := ⟨[], a, d, rfl, by simpa using s12.tup ha, by simp [sub]⟩
    cases d with
    | bx i k => exact iteF ⟨_, rfl, q o [.ref a] H2 s12 ho (s2 _ _ eo) (by simp) (by simp [sz]) (by simpa using self)⟩
    | br b ps =>
      have hD2 := s2.dr hD1
      simp only [Dr] at hD2
      obtain ⟨a', p, vs, ea, h1, h2, h3⟩ := hD2
      cases ea
      have hlen := h3.len
      simp only [BxA] at hB
      simp only [sz] at hz q
      simp only [dep] at hn hpd
      refine iteT ⟨_, rfl, _, _, _, _, rfl, rfl, h1, rfl, _, _, rfl, h2, ?_⟩
      refine for_enT (xs := vs) (fun i σ H' => ∃ o y3 y4 xs, σ = [some (.ref a0), some (.ref a), some (.ref o), y3, y4] ∧ Same H2 H' ∧ H o = none ∧ H' o = some (.lst xs) ∧ xs ≠ [] ∧ xs.length ≤ 1 + szs (ps.take i) ∧ ∀ x ∈ xs, WyR K H' (.br b ps) path x) ⟨o, _, _, _, rfl, Same.refl _, ho, s2 _ _ eo, by simp, by simp, by simpa using self⟩ (fun i σ H' hi hP => ?_) (fun i x Tt σ H' ex hTt hP => ?_) (fun σ H' hP => ?_)
      · obtain ⟨o, y3, y4, xs, rfl, e, _⟩ := hP
        exact e.tup h2
      · obtain ⟨o, y3, y4, xs, rfl, e, hno, eo, hne, hxl, hx⟩ := hP
        obtain ⟨d', ed, hd'⟩ := h3.get ex
        have k1 := dep_kid ed
        have k2 := sz_kid ed
        have k3 := szs_take1 ed
        have k4 := szs_take ps (i + 1)
        have s3 : Same H' (upd H' Tt (.tup [.int (i : Nat), x])) := same_new hTt
        refine ⟨Tt, _, rfl, SqT.of upd_same, rfl, _, _, rfl, _, _, rfl, rfl, ?_⟩
        generalize upd H' Tt (.tup [.int (i : Nat), x]) = H3 at s3
        refine ⟨_, rfl, _, rfl, _, rfl, _, rfl, by show 1 ≤ sizeLine; decide, fun t3 ht3 => ?_⟩
        have s4 : Same H3 (upd H3 t3 (.tup [.int (i : Int)])) := same_new ht3
        have e34 := e.trans (s3.trans s4)
        refine catA_ok (e34.tup (s12.tup ha)) (SqT.of upd_same) (by rw [wv_len]; simp; omega) (fun pw H5 s5 hpw => ?_)
        have e35 := e34.trans s5
        refine ⟨_, pw, d', path ++ [i], rfl, e35.dr hd', by rw [wv_app]; exact hpw, bxa_kid hB ed, by omega, by simp; omega, by omega, fun l2 xs2 H6 s6 hl2 el2 hne2 hxl2 hx2 => ?_⟩
        have s346 := s3.trans (s4.trans (s5.trans s6))
        refine ⟨o, l2, xs, xs2, rfl, rfl, s346 _ _ eo, el2, le_size (by omega), fun r hr => ?_⟩
        have s7 := same_new (o := .lst (xs ++ xs2)) hr
        refine ⟨_, _, _, _, rfl, e.trans (s346.trans s7), (s12.trans (e.trans s346)).none hr, upd_same, by simp [hne], by simp; omega, fun y hy => ?_⟩
        rcases List.mem_append.mp hy with hy | hy
        · exact (s346.trans s7).kp.wyR (hx y hy)
        · obtain ⟨w', p', s', rfl, g1, g2⟩ := s7.kp.wyR (hx2 y hy)
          refine ⟨i :: w', p', s', rfl, ?_, ?_⟩
          · rw [List.append_assoc] at g1
            exact g1
          · simp only [sub, ed]
            exact g2
      · obtain ⟨o, y3, y4, xs, rfl, e, hno, eo, hne, hxl, hx⟩ := hP
        rw [List.take_of_length_le (by omega)] at hxl
        exact ⟨_, rfl, q o xs H' (s12.trans e) hno eo hne hxl hx⟩
theorem slA_ok {K : PySem.W.Frag} {H : Hp} {a : Addr} {xs : List V} {lo hi : Option Int} {Q : VK} (h : SqT K H a xs) (q : ∀ p H', Same H H' → SqT K H' p (cutV xs lo hi) → Q (.ref p) H') : rSlA K (.ref a) lo hi H Q := by
  refine ⟨a, xs, rfl, h, fun z => ?_, fun _ p hp => q p _ (same_new hp) (SqT.of upd_same)⟩
  refine q a H (Same.refl H) ?_
  have : cutV xs lo hi = xs := by
    unfold cutV
    rw [z.1, z.2]
    simp
  rw [this]
  exact h
theorem cut_to {xs : List V} {i : Nat} (h : i ≤ xs.length) : cutV xs none (some (i : Int)) = xs.take i := by
  unfold cutV
  rw [HT.sIx_none, HT.sIx_nat, List.drop_zero, Nat.sub_zero, Nat.min_eq_left h]
theorem cut_from {xs : List V} {i : Nat} (h : i ≤ xs.length) : cutV xs (some (i : Int)) none = xs.drop i := by
  unfold cutV
  rw [HT.sIx_none, HT.sIx_nat, Nat.min_eq_left h]
  exact List.take_of_length_le (by simp)
theorem set_cut {α : Type} (xs : List α) {i : Nat} (x : α) (h : i < xs.length) : xs.take i ++ [x] ++ xs.drop (i + 1) = xs.set i x := by
  rw [List.set_eq_take_append_cons_drop, if_pos h]
  simp
theorem Drs.set {K : PySem.W.Frag} {H : Hp} : ∀ {ps : List D} {vs : List V} {i : Nat} {d : D} {v : V}, Drs K H ps vs → Dr K H d v → Drs K H (ps.set i d) (vs.set i v)
  | [], vs, i, d, v, h, _ => by
    simp only [Drs] at h
    subst h
    simp [Drs]
  | x :: ps, vs, 0, d, v, h, h' => by
    simp only [Drs] at h
    obtain ⟨u, r, rfl, h1, h2⟩ := h
    simp only [List.set_cons_zero, Drs]
    exact ⟨v, r, rfl, h', h2⟩
  | x :: ps, vs, i + 1, d, v, h, h' => by
    simp only [Drs] at h
    obtain ⟨u, r, rfl, h1, h2⟩ := h
    simp only [List.set_cons_succ, Drs]
    exact ⟨u, _, rfl, h1, Drs.set h2 h'⟩
theorem eqv_ti (ds : List PyData) : PyData.eqv (.tuple ds) (.tuple []) = ds.isEmpty := by
  cases ds <;> simp [PyData.eqv, PyData.eqvAll]
/-- a part put in the place of another -/
def spPut (K : PySem.W.Frag) (n : Nat) : Sp := fun vs H Q _ => ∃ (v u : V) (a : Addr) (d e s : D) (wy : List Nat), vs = [v, .ref a, u] ∧ Dr K H d v ∧ SqT K H a (wv wy) ∧ Dr K H e u ∧ sub d wy = some s ∧ sz d ≤ 5000 ∧ wy.length + 1 ≤ n ∧ wy.length ≤ 100 ∧ ∀ v' H', Same H H' → Dr K H' (put d wy e) v' → Q v' H'
abbrev s_law_put : Stmt := top 46
abbrev N_law_put : List Str := ["_law_sketch", "_law_path", "_law_fresh", "_law_at", "_law_parts"]
theorem sc_law_put : FnScope N_law_put ["_law_sketch", "_law_path", "_law_fresh"] (C8.fnScope s_law_put) := C8.fnScope_by (by decide +kernel)
theorem ok_law_put {P : Program} {w : World} {K : PySem.W.Frag} {mg : Str → Option Value} {base : Heap} (T : Tp0 w K mg) (F : D0 K mg "_law_put" s_law_put ["_law_sketch", "_law_path", "_law_fresh"]) : ∀ n, C8.Cal P w K mg base (n + 2) "_law_put" (spPut K n) []
  | 0 => F.vac fun vs H Q E h => by
    obtain ⟨_, _, _, _, _, _, _, _, _, _, _, _, _, h, _⟩ := h
    omega
  | n + 1 => by
    have c_law_put : C8.Cal P w K mg base (n + 2) "_law_put" (spPut K n) [] := ok_law_put T F n
    refine F.ok sc_law_put (fun vs H Q E h => ?_) (fun f cdv A outer s H vs Q E hr h => ?_)
    · obtain ⟨_, _, _, _, _, _, _, rfl, _⟩ := h
      rfl
    obtain ⟨v, u, a, d, e, sd, wy, rfl, hD, ha, hE, hs, hz, hn, h100, q⟩ := h
    refine ⟨_, (pss_cons (ps_if (pt_cmpR (op_eqD hr.units) (pv 1) (pe_tup pa_nil) (nomark _))
      (pss_one (ps_ret (pv 2)))
      pss_nil)
    (pss_cons (ps_par (i := 3) (j := 4) rfl sc_law_put.nd rfl rfl (by decide) rfl rfl (pa_cons (pe_ix (r := rIxT K) ix_tup (pv 1) pe_int (fun _ _ => rfl)) (pa_cons (pe_ix (r := rIxT K) ix_tup (pv 0) pe_int (fun _ _ => rfl)) pa_nil)) (by rfl))
    (pss_one (ps_ret (pe_tup (pa_cons (pe_ix (r := rIxT K) ix_tup (pv 0) pe_int (fun _ _ => rfl)) (pa_cons (pe_op op_catA (pe_op op_catA (pe_slice sl_tupA (pv 4) po_none (po_some (pv 3))) (pe_tup (pa_cons (C8.pe_c c_law_put hr (by omega) rfl (pa_cons (pe_ix (r := rIxT K) ix_tup (pv 4) (pv 3) (fun _ _ => rfl)) (pa_cons (pe_slice sl_tupA (pv 1) (po_some pe_int) po_none) (pa_cons (pv 2) pa_nil)))) pa_nil))) (pe_slice sl_tupA (pv 4) (po_some (pe_op op_add (pv 3) pe_int)) po_none)) pa_nil))))))), ?_⟩
    refine ⟨_, rfl, Nat.zero_le _, fun t ht => ?_⟩
    have s1 : Same H (upd H t (.tup [])) := same_new ht
    have et : upd H t (.tup []) t = some (.tup []) := upd_same
    generalize upd H t (.tup []) = H1 at s1 et
    have ew : wv wy = (wy.map fun i : Nat => (i : Int)).map V.int := by
      unfold wv
      rw [List.map_map]
      rfl
    have hda : Dp K H1 (.ref a) (.tuple ((wy.map fun i : Nat => (i : Int)).map PyData.int)) := .tup (s1.tup ha) (by rw [ew]; exact dpi K H1 _)
    have shw : SeqAt.shaped (.tuple ((wy.map fun i : Nat => (i : Int)).map PyData.int)) = true := by
      have z := sh_i (wy.map fun i : Nat => (i : Int))
      simpa [SeqAt.shaped, PyData.canLay0, PyData.depth] using z
    refine ⟨_, .tuple [], hda, .tup (SqT.of et) .nil, shw, by decide, _, rfl, ?_⟩
    rw [eqv_ti]
    cases wy with
    | nil =>
      simp only [put] at q
      exact iteT ⟨_, rfl, q u H1 s1 (s1.dr hE)⟩
    | cons i wy =>
      cases d with
      | bx j k => simp [sub] at hs
      | br b ps =>
        obtain ⟨d', ed, hs'⟩ := sub_br hs
        rw [put_br ed] at q
        have hi := (List.getElem?_eq_some_iff.mp ed).1
        have hD1 := s1.dr hD
        simp only [Dr] at hD1
        obtain ⟨a0, p, vs, rfl, h1, h2, h3⟩ := hD1
        have hlen := h3.len
        have hls := len_szs ps
        have k2 := sz_kid ed
        simp only [sz] at hz
        simp only [List.length_cons] at hn h100
        obtain ⟨v', ev', hd'⟩ := h3.at ed
        refine iteF ⟨_, rfl, _, _, _, _, rfl, rfl, s1.tup ha, at_of (j := 0) rfl rfl, _, rfl, _, _, _, _, rfl, rfl, h1, rfl, _, _, rfl, ?_⟩
        refine ⟨_, rfl, _, _, _, _, rfl, rfl, h1, rfl, _, rfl, _, rfl, _, rfl, ?_⟩
        refine slA_ok h2 (fun p1 H2 s2 hp1 => ?_)
        rw [cut_to (by omega)] at hp1
        refine ⟨_, rfl, _, rfl, _, _, _, _, rfl, rfl, s2.tup h2, atI_nat ev', _, rfl, _, rfl, ?_⟩
        simp only [tNoPart]
        refine slA_ok ((s1.trans s2).tup ha) (fun p2 H3 s3 hp2 => ?_)
        have hp2 : SqT K H3 p2 (wv wy) := by
          have z := cut_from (xs := wv (i :: wy)) (i := 1) (by simp [wv])
          rw [show ((1 : Nat) : Int) = 1 by rfl] at z
          rw [z] at hp2
          exact hp2
        have s23 := s2.trans s3
        refine ⟨_, rfl, v', u, p2, d', e, sd, wy, rfl, s23.dr hd', hp2, (s1.trans s23).dr hE, hs', by omega, by omega, by omega, fun v2 H4 s4 hv2 => ⟨by show 1 ≤ sizeLine; decide, fun t1 ht1 => ?_⟩⟩
        have s5 : Same H4 (upd H4 t1 (.tup [v2])) := same_new ht1
        refine catA_ok ((s3.trans (s4.trans s5)).tup hp1) (SqT.of upd_same) (by simp; omega) (fun p3 H6 s6 hp3 => ?_)
        have s26 := s23.trans (s4.trans (s5.trans s6))
        refine ⟨_, rfl, _, rfl, _, _, rfl, rfl, _, rfl, ?_⟩
        simp only [tNoPart]
        refine slA_ok (s26.tup h2) (fun p4 H7 s7 hp4 => ?_)
        have hp4 : SqT K H7 p4 (vs.drop (i + 1)) := by
          have z := cut_from (xs := vs) (i := i + 1) (by omega)
          rw [show ((i + 1 : Nat) : Int) = (i : Int) + 1 by omega] at z
          rw [← z]
          exact hp4
        refine catA_ok (s7.tup hp3) hp4 (by simp; omega) (fun p5 H8 s8 hp5 => ?_)
        rw [set_cut _ _ (by omega)] at hp5
        refine ⟨by show 2 ≤ sizeLine; decide, fun t9 ht9 => ?_⟩
        have s9 := same_new (o := .tup [.str (kw b), .ref p5]) ht9
        have s59 := s5.trans (s6.trans (s7.trans (s8.trans s9)))
        refine q _ _ (s1.trans (s23.trans (s4.trans s59))) (dr_br (SqT.of upd_same) (s9.tup hp5) ?_)
        exact Drs.set ((s23.trans (s4.trans s59)).drs h3) (s59.dr hv2)
end K9

set_option maxHeartbeats 4000000
namespace K9
open PySem PySem.Spec L2
/-! ### the ladder -/
def rr (k i : Nat) : Nat := if i = 0 then 1 else if (i - 1 + k) % 2 = 0 then 2 else 1
def spLadder (K : PySem.W.Frag) : Sp := fun vs H Q _ => ∃ (t : Kd) (m : Nat), vs = [.ref t.dk, .int (m : Int)] ∧ m ≤ 12 ∧ Dk H t ∧ ∀ v d r H', DS t H H' → Dr K H' d v → Tp d 1 r → r ≤ 2 → dep d ≤ 12 → sz d ≤ 25 → Q v H'
theorem w_un : word 8 = ("undrop" : Str) ∧ word 5 = ("nought" : Str) ∧ word 4 = ("add" : Str) ∧ word 7 = ("uncopy" : Str) ∧ word 0 = ("wire" : Str) ∧ word 6 = ("times" : Str) ∧ word 11 = ("untimes" : Str) := by decide +kernel
theorem dr_bx0 {K : PySem.W.Frag} {H : Hp} {i : Nat} {t : Addr} {x : Str} (hn : isnum i = false) (hw : word i = x) (h : SqT K H t [.str x]) : Dr K H (.bx i 0) (.ref t) := by
  simp only [Dr]
  refine ⟨t, rfl, ?_⟩
  unfold bv
  rw [hn, hw]
  exact h
theorem dr_bxk {K : PySem.W.Frag} {H : Hp} {i k : Nat} {t : Addr} {x : Str} (hn : isnum i = true) (hw : word i = x) (h : SqT K H t [.str x, .int (k : Int)]) : Dr K H (.bx i k) (.ref t) := by
  simp only [Dr]
  refine ⟨t, rfl, ?_⟩
  unfold bv
  rw [hn, hw]
  exact h
theorem bok {i : Nat} (h : i < 14) : BxOk i 0 := ⟨h, Nat.zero_le _, fun _ => rfl⟩
theorem tp_bx {i k : Nat} (h : BxOk i k) : Tp (.bx i k) (eL i) (eR i) := by
  unfold Tp
  exact ⟨h, rfl, rfl⟩
abbrev s_law_ladder : Stmt := top 49
abbrev N_law_ladder : List Str := ["_law_deck_here", "_law_many", "_law_kind", "_law_found", "_law_turn", "_law_side", "_law_more"]
theorem sc_law_ladder : FnScope N_law_ladder ["_law_deck_here", "_law_many"] (C8.fnScope s_law_ladder) := C8.fnScope_by (by decide +kernel)
theorem ok_law_ladder {P : Program} {w : World} {K : PySem.W.Frag} {mg : Str → Option Value} {base : Heap} (T : Tp0 w K mg) (F : D0 K mg "_law_ladder" s_law_ladder ["_law_deck_here", "_law_many"])
    (c_law_draw : C8.Cal P w K mg base 1 "_law_draw" spDraw []) (c_law_pick : C8.Cal P w K mg base 2 "_law_pick" spPick []) : C8.Cal P w K mg base 3 "_law_ladder" (spLadder K) [] := by
  refine F.ok sc_law_ladder (fun vs H Q E h => ?_) (fun f cdv A outer s H vs Q E hr h => ?_)
  · obtain ⟨_, _, rfl, _⟩ := h
    rfl
  obtain ⟨t, m, rfl, hm, hk, q⟩ := h
  refine ⟨_, (pss_cons (ps_set (i := 2) sc_law_ladder.nd rfl (Or.inl rfl) (C8.pe_c c_law_draw hr (by omega) rfl (pa_cons (pv 0) (pa_cons pe_int pa_nil))))
    (pss_cons (ps_set (i := 3) sc_law_ladder.nd rfl (Or.inl rfl) (pe_ifExp (pt_cmpR op_eq (C8.pe_c c_law_draw hr (by omega) rfl (pa_cons (pv 0) (pa_cons pe_int pa_nil))) pe_int (nomark _)) (pe_tup (pa_cons pe_str pa_nil)) (pe_tup (pa_cons pe_str (pa_cons (C8.pe_c c_law_draw hr (by omega) rfl (pa_cons (pv 0) (pa_cons pe_int pa_nil))) pa_nil)))))
    (pss_cons (ps_for PassesOwn.never rfl (pi_range1 rfl T.range (pa_cons (pv 1) pa_nil)) (pg_name (i := 4) sc_law_ladder.nd rfl (Or.inl rfl))
      (pss_one (ps_if (pt_cmpR op_eq (pe_op op_mod (pe_callTy call_int1 rfl T.int bo_int (pa_cons (pe_op op_add (pv 4) (pv 2)) pa_nil)) pe_int) pe_int (nomark _))
          (pss_cons (ps_set (i := 5) sc_law_ladder.nd rfl (Or.inl rfl) (C8.pe_c c_law_pick hr (by omega) rfl (pa_cons (pv 0) (pa_cons (pe_lst (pa_cons (pe_tup (pa_cons pe_str pa_nil)) (pa_cons (pe_tup (pa_cons pe_str pa_nil)) pa_nil))) pa_nil))))
            (pss_one (ps_set (i := 3) sc_law_ladder.nd rfl (Or.inl rfl) (pe_tup (pa_cons pe_str (pa_cons (pe_ifExp (pt_cmpR op_eq (C8.pe_c c_law_draw hr (by omega) rfl (pa_cons (pv 0) (pa_cons pe_int pa_nil))) pe_int (nomark _)) (pe_tup (pa_cons (pv 3) (pa_cons (pv 5) pa_nil))) (pe_tup (pa_cons (pv 5) (pa_cons (pv 3) pa_nil)))) pa_nil))))))
          (pss_cons (ps_set (i := 6) sc_law_ladder.nd rfl (Or.inl rfl) (pe_ifExp (pt_cmpR op_eq (pv 4) pe_int (nomark _)) (pe_tup (pa_cons pe_str pa_nil)) (C8.pe_c c_law_pick hr (by omega) rfl (pa_cons (pv 0) (pa_cons (pe_lst (pa_cons (pe_tup (pa_cons pe_str pa_nil)) (pa_cons (pe_tup (pa_cons pe_str pa_nil)) pa_nil))) pa_nil)))))
            (pss_one (ps_set (i := 3) sc_law_ladder.nd rfl (Or.inl rfl) (pe_tup (pa_cons pe_str (pa_cons (pe_tup (pa_cons (pv 3) (pa_cons (pv 6) pa_nil))) pa_nil)))))))))
    (pss_one (ps_ret (pv 3)))))), ?_⟩
  refine ⟨_, rfl, t, 2, rfl, by omega, by omega, hk, fun kd H1 hkd d1 => ?_⟩
  dsimp only [gName]
  refine te_by (te := tIf _ _ _) (fun x H2 => DS t H H2 ∧ ∃ d, Dr K H2 d x ∧ Tp d 1 1 ∧ dep d = 0 ∧ sz d = 1) (fun R' kk => ?_) (fun x H2 hx => ?_)
  · refine ⟨_, rfl, t, 2, rfl, by omega, by omega, d1.2.2, fun j H2 hj d2 => ⟨rfl, _, rfl, ?_⟩⟩
    by_cases c : j = 0
    · subst c
      refine iteT ⟨by show 1 ≤ sizeLine; decide, fun p hp => ?_⟩
      exact kk _ _ ⟨(d1.trans d2).same (same_new hp), .bx 0 0, dr_bx0 rfl w_un.2.2.2.2.1 (SqT.of upd_same), tp_bx (i := 0) (bok (by decide)), rfl, rfl⟩
    · rw [decide_eq_false (by simp only [V.int.injEq]; omega)]
      refine iteF ⟨_, rfl, t, 7, rfl, by omega, by omega, d2.2.2, fun k H3 hk3 d3 => ⟨by show 2 ≤ sizeLine; decide, fun p hp => ?_⟩⟩
      exact kk _ _ ⟨(d1.trans (d2.trans d3)).same (same_new hp), .bx 6 k, dr_bxk rfl w_un.2.2.2.2.2.1 (SqT.of upd_same), tp_bx (i := 6) ⟨by omega, by omega, fun z => by cases z⟩, rfl, rfl⟩
  obtain ⟨d2, d0, hd0, ht0, hp0, hz0⟩ := hx
  refine ⟨_, rfl, _, rfl, by omega, by omega, ?_⟩
  refine for_range (lo := 0) (n := ((m : Int)).toNat) (fun i σ H' => ∃ (v : V) (d : D) (y4 y5 y6 : Option V), σ = [some (.ref t.dk), some (.int (m : Int)), some (.int (kd : Int)), some v, y4, y5, y6] ∧ DS t H H' ∧ Dr K H' d v ∧ Tp d 1 (rr kd i) ∧ dep d ≤ i ∧ sz d ≤ 1 + 2 * i) ⟨_, d0, _, _, _, rfl, d2, hd0, ht0, by omega, by omega⟩ (fun i σ H' hi hP => ?_) (fun σ H' hP => ?_)
  · obtain ⟨v, d, y4, y5, y6, rfl, dd, hD, hT, hdp, hsz⟩ := hP
    refine ⟨_, rfl, _, rfl, _, _, rfl, rfl, .inl ⟨_, rfl, _, _, rfl, rfl, (by show (0 : Int) < 2; decide), rfl, _, rfl, ?_⟩⟩
    by_cases c : (i + kd) % 2 = 0
    · rw [decide_eq_true (by simp only [V.int.injEq]; omega)]
      have e1 : rr kd i = 1 := by
        unfold rr
        split
        · rfl
        · rw [if_neg (by omega)]
      have e2 : rr kd (i + 1) = 2 := by
        unfold rr
        rw [if_neg (by omega), if_pos (by simpa using c)]
      rw [e1] at hT
      refine iteT ⟨_, rfl, by show 1 ≤ sizeLine; decide, fun p1 hp1 => ⟨by show 1 ≤ sizeLine; decide, fun p2 hp2 => ⟨by show 2 ≤ sizeLine; decide, fun l hl => ?_⟩⟩⟩
      have s1 := same_new (o := .tup [.str ("undrop" : Str)]) hp1
      have s2 := same_new (o := .tup [.str ("nought" : Str)]) hp2
      have s3 := same_new (o := .lst [V.ref p1, .ref p2]) hl
      have s123 := s1.trans (s2.trans s3)
      have f1 : Dr K _ (.bx 8 0) (.ref p1) := dr_bx0 (K := K) rfl w_un.1 ((s2.trans s3).tup (SqT.of upd_same))
      have f2 : Dr K _ (.bx 5 0) (.ref p2) := dr_bx0 (K := K) rfl w_un.2.1 (s3.tup (SqT.of upd_same))
      have dl := dd.same s123
      have hln := (dd.same (s1.trans s2)).none hl
      obtain ⟨n1, n2, n3⟩ := hk.ne hln
      refine ⟨t, l, _, rfl, dl.2.2, upd_same, by simp, by show 2 ≤ 1000; decide, n1, n2, fun u H4 hu d4 => ?_⟩
      have hu : ∃ i, Dr K H4 (.bx i 0) u ∧ Tp (.bx i 0) 0 1 := by
        have : u = .ref p1 ∨ u = .ref p2 := by simpa using hu
        rcases this with rfl | rfl
        · exact ⟨8, d4.dr f1, tp_bx (i := 8) (bok (by decide))⟩
        · exact ⟨5, d4.dr f2, tp_bx (i := 5) (bok (by decide))⟩
      obtain ⟨iu, hu, hTu⟩ := hu
      have dd4 := dl.trans d4
      have hD4 := d4.dr (s123.dr hD)
      refine ⟨_, rfl, t, 2, rfl, by omega, by omega, d4.2.2, fun j H5 hj d5 => ⟨rfl, _, rfl, ?_⟩⟩
      have dd5 := dd4.trans d5
      have hD5 := d5.dr hD4
      have hu5 := d5.dr hu
      by_cases cj : j = 0
      · subst cj
        refine iteT ⟨_, rfl, _, rfl, by show 2 ≤ sizeLine; decide, fun p3 hp3 => ⟨by show 2 ≤ sizeLine; decide, fun p4 hp4 => ?_⟩⟩
        have s4 := same_new (o := .tup [v, u]) hp3
        have s5 := same_new (o := .tup [.str ("beside" : Str), .ref p3]) hp4
        refine ⟨_, .br false [d, .bx iu 0], _, _, _, rfl, (dd5.same s4).same s5, dr_br (SqT.of upd_same) (s5.tup (SqT.of upd_same)) (drs2 ((s4.trans s5).dr hD5) ((s4.trans s5).dr hu5)), ?_, ?_, ?_⟩
        · rw [e2]
          exact Tp_f2 hT hTu (by omega) (by omega)
        · simp only [dep, deps]
          omega
        · simp only [sz, szs]
          omega
      · rw [decide_eq_false (by simp only [V.int.injEq]; omega)]
        refine iteF ⟨_, rfl, _, rfl, by show 2 ≤ sizeLine; decide, fun p3 hp3 => ⟨by show 2 ≤ sizeLine; decide, fun p4 hp4 => ?_⟩⟩
        have s4 := same_new (o := .tup [u, v]) hp3
        have s5 := same_new (o := .tup [.str ("beside" : Str), .ref p3]) hp4
        refine ⟨_, .br false [.bx iu 0, d], _, _, _, rfl, (dd5.same s4).same s5, dr_br (SqT.of upd_same) (s5.tup (SqT.of upd_same)) (drs2 ((s4.trans s5).dr hu5) ((s4.trans s5).dr hD5)), ?_, ?_, ?_⟩
        · rw [e2]
          exact Tp_f2 hTu hT (by omega) (by omega)
        · simp only [dep, deps]
          omega
        · simp only [sz, szs]
          omega
    · rw [decide_eq_false (by simp only [V.int.injEq]; omega)]
      have e2 : rr kd (i + 1) = 1 := by
        unfold rr
        rw [if_neg (by omega), if_neg (by simpa using c)]
      refine iteF ?_
      refine te_by (te := tIf _ _ _) (fun x H2 => DS t H' H2 ∧ ∃ e, Dr K H2 e x ∧ Tp e (rr kd i) 1 ∧ dep e = 0 ∧ sz e = 1) (fun R' kk => ?_) (fun x H2 hx => ?_)
      · refine ⟨_, rfl, rfl, _, rfl, ?_⟩
        by_cases ci : i = 0
        · subst ci
          refine iteT ⟨by show 1 ≤ sizeLine; decide, fun p hp => ?_⟩
          exact kk _ _ ⟨DS.of dd.2.2 (same_new hp), .bx 0 0, dr_bx0 rfl w_un.2.2.2.2.1 (SqT.of upd_same), tp_bx (i := 0) (bok (by decide)), rfl, rfl⟩
        · rw [decide_eq_false (by simp only [V.int.injEq]; omega)]
          have e1 : rr kd i = 2 := by
            unfold rr
            rw [if_neg ci, if_pos (by omega)]
          refine iteF ⟨_, rfl, by show 1 ≤ sizeLine; decide, fun p1 hp1 => ⟨by show 1 ≤ sizeLine; decide, fun p2 hp2 => ⟨by show 2 ≤ sizeLine; decide, fun l hl => ?_⟩⟩⟩
          have s1 := same_new (o := .tup [.str ("add" : Str)]) hp1
          have s2 := same_new (o := .tup [.str ("uncopy" : Str)]) hp2
          have s3 := same_new (o := .lst [V.ref p1, .ref p2]) hl
          have s123 := s1.trans (s2.trans s3)
          have f1 : Dr K _ (.bx 4 0) (.ref p1) := dr_bx0 (K := K) rfl w_un.2.2.1 ((s2.trans s3).tup (SqT.of upd_same))
          have f2 : Dr K _ (.bx 7 0) (.ref p2) := dr_bx0 (K := K) rfl w_un.2.2.2.1 (s3.tup (SqT.of upd_same))
          have dl := DS.of dd.2.2 s123
          have hln := (dd.same (s1.trans s2)).none hl
          obtain ⟨n1, n2, n3⟩ := hk.ne hln
          refine ⟨t, l, _, rfl, dl.2.2, upd_same, by simp, by show 2 ≤ 1000; decide, n1, n2, fun u H4 hu d4 => ?_⟩
          have : u = .ref p1 ∨ u = .ref p2 := by simpa using hu
          rcases this with rfl | rfl
          · refine kk _ _ ⟨dl.trans d4, .bx 4 0, d4.dr f1, ?_, rfl, rfl⟩
            rw [e1]
            exact tp_bx (i := 4) (bok (by decide))
          · refine kk _ _ ⟨dl.trans d4, .bx 7 0, d4.dr f2, ?_, rfl, rfl⟩
            rw [e1]
            exact tp_bx (i := 7) (bok (by decide))
      · obtain ⟨d5, e, hE, hTe, hde, hze⟩ := hx
        refine ⟨_, rfl, _, rfl, by show 2 ≤ sizeLine; decide, fun p3 hp3 => ⟨by show 2 ≤ sizeLine; decide, fun p4 hp4 => ?_⟩⟩
        have s4 := same_new (o := .tup [v, x]) hp3
        have s5 := same_new (o := .tup [.str ("behind" : Str), .ref p3]) hp4
        refine ⟨_, .br true [d, e], _, _, _, rfl, ((dd.trans d5).same s4).same s5, dr_br (SqT.of upd_same) (s5.tup (SqT.of upd_same)) (drs2 ((s4.trans s5).dr (d5.dr hD)) ((s4.trans s5).dr hE)), ?_, ?_, ?_⟩
        · rw [e2]
          exact Tp_t2 hT hTe
        · simp only [dep, deps]
          omega
        · simp only [sz, szs]
          omega
  · obtain ⟨v, d, y4, y5, y6, rfl, dd, hD, hT, hdp, hsz⟩ := hP
    refine ⟨_, rfl, q v d _ _ dd hD hT ?_ (by omega) (by omega)⟩
    unfold rr
    split
    · omega
    · split <;> omega
/-! ### the text, told otherwise -/
theorem btxt_lt : ∀ i, i < 14 → ∀ k, k < 7 → ∀ c ∈ btxt i k, c < 128 := by decide +kernel
theorem none_lt : ∀ c ∈ codes "none", c < 128 := by decide +kernel
theorem sep_lt : ∀ b, ∀ c ∈ sep b, c < 128 := by decide
mutual
theorem txt_lt : ∀ d : D, BxA d → ∀ c ∈ txt d, c < 128
  | .bx i k, h, c, hc => by
    simp only [BxA] at h
    simp only [txt] at hc
    exact btxt_lt i h.1 k (by have := h.2.1; omega) c hc
  | .br b ps, h, c, hc => by
    simp only [BxA] at h
    simp only [txt] at hc
    split at hc
    · exact none_lt c hc
    · exact join_lt b ps h c hc
theorem join_lt (b : Bool) : ∀ ps : List D, BxAs ps → ∀ c ∈ joinL (sep b) (ptxts ps), c < 128
  | [], _, c, hc => by simp [ptxts, joinL] at hc
  | [d], h, c, hc => by
    rw [BxAs] at h
    rw [ptxts_cons] at hc
    exact ptx_lt d h.1 c hc
  | d :: e :: ps, h, c, hc => by
    rw [BxAs] at h
    rw [ptxts_cons, joinL_cons _ _ (by rw [ptxts_cons]; simp)] at hc
    rcases List.mem_append.mp hc with hc | hc
    · rcases List.mem_append.mp hc with hc | hc
      · exact ptx_lt d h.1 c hc
      · exact sep_lt b c hc
    · exact join_lt b (e :: ps) h.2 c hc
theorem ptx_lt : ∀ d : D, BxA d → ∀ c ∈ ptx d, c < 128
  | .bx i k, h, c, hc => by
    simp only [BxA] at h
    simp only [ptx] at hc
    exact btxt_lt i h.1 k (by have := h.2.1; omega) c hc
  | .br b ps, h, c, hc => by
    simp only [ptx, List.mem_cons, List.mem_append, List.not_mem_nil, or_false] at hc
    rcases hc with rfl | hc | rfl
    · decide
    · exact txt_lt (.br b ps) h c hc
    · decide
end
theorem ptxts_lt : ∀ ps : List D, BxAs ps → ∀ x ∈ ptxts ps, ∀ c ∈ x, c < 128
  | [], _, x, hx => by simp [ptxts] at hx
  | d :: ps, h, x, hx => by
    rw [BxAs] at h
    rw [ptxts_cons] at hx
    rcases List.mem_cons.mp hx with rfl | hx
    · exact ptx_lt d h.1
    · exact ptxts_lt ps h.2 x hx
theorem strOk_S {l : List Nat} (h : ∀ c ∈ l, c < 128) : PyData.strOk (S l) = true := by
  unfold PyData.strOk S
  rw [Array.all_eq_true_iff_forall_mem]
  intro c hc
  have := h c (by simpa using hc)
  exact decide_eq_true (by omega)
theorem dps (K : PySem.W.Frag) (H : Hp) : ∀ xs : List Str, DpAll K H (xs.map V.str) (xs.map PyData.str)
  | [] => .nil
  | x :: xs => .cons (.str x) (dps K H xs)
theorem lay_s : ∀ xs : List (List Nat), (∀ x ∈ xs, ∀ c ∈ x, c < 128) → PyData.canLayAll0 ((xs.map S).map PyData.str) = true ∧ PyData.depthAll ((xs.map S).map PyData.str) = 0
  | [], _ => by simp [PyData.canLayAll0, PyData.depthAll]
  | x :: xs, h => by
    obtain ⟨h1, h2⟩ := lay_s xs fun y hy => h y (by simp [hy])
    simp only [List.map_cons, PyData.canLayAll0, PyData.depthAll, PyData.canLay0, PyData.depth, h1, h2, strOk_S (h x (by simp))]
    simp
/-- what str of the items gives -/
def tx (i k : Nat) : List Str := if isnum i then [word i, ((toString (k : Int) : String) : Str)] else [word i]
theorem bt4 : ∀ i : Nat, i < 14 → ∀ k : Nat, k < 7 → (isnum i = true ∨ k = 0) → Str.join ((" " : String) : Str) (tx i k) = S (btxt i k) := by decide +kernel
theorem bt5 : ∀ i : Nat, i < 14 → ∀ k : Nat, k < 7 → ((tx i k).map (·.length)).sum + (tx i k).length * ((" " : String) : Str).length ≤ 16777216 := by decide +kernel
theorem tx_len (i k : Nat) : (tx i k).length = (bv i k).length ∧ (bv i k).length ≤ 2 := by
  unfold tx bv
  split <;> simp
abbrev s_law_text : Stmt := top 50
abbrev N_law_text : List Str := ["_law_sketch", "_law_found", "_law_part", "_law_own"]
theorem sc_law_text : FnScope N_law_text ["_law_sketch"] (C8.fnScope s_law_text) := C8.fnScope_by (by decide +kernel)
theorem ok_law_text {P : Program} {w : World} {K : PySem.W.Frag} {mg : Str → Option Value} {base : Heap} (T : Tp0 w K mg) (F : D0 K mg "_law_text" s_law_text ["_law_sketch"]) : ∀ n, C8.Cal P w K mg base (n + 2) "_law_text" (spText K n) []
  | 0 => F.vac fun vs H Q E h => by
    obtain ⟨_, _, _, _, _, _, _, _, h, _⟩ := h
    omega
  | n + 1 => by
    have c_law_text : C8.Cal P w K mg base (n + 2) "_law_text" (spText K n) [] := ok_law_text T F n
    refine F.ok sc_law_text (fun vs H Q E h => ?_) (fun f cdv A outer s H vs Q E hr h => ?_)
    · obtain ⟨_, _, rfl, _⟩ := h
      rfl
    obtain ⟨v, d, rfl, hD, hN, hB, hz, h30, hn, q⟩ := h
    refine ⟨_, (pss_cons (ps_if (pt_cmpR op_notIn_seq (pe_ix (r := rIxT K) ix_tup (pv 0) pe_int (fun _ _ => rfl)) (pe_tup (pa_cons pe_str (pa_cons pe_str pa_nil))) (by rfl))
      (pss_one (ps_ret (pe_join pe_str (pe_lc (own := [("_law_own", 3)]) (g := gName 3) (tt := tYes) rfl sc_law_text.nd (pi_tup (pv 0)) (blkOk_by (N := N_law_text) (sc := C8.fnScope s_law_text) (by decide +kernel)) (fun _ _ _ _ _ => (pg_name (i := 3) sc_law_text.nd rfl (Or.inl rfl))) (fun _ _ _ _ _ => pts_nil) (fun _ _ _ _ _ => (pe_callTy call_strA rfl T.str bo_str (pa_cons (pv 3) pa_nil)))))))
      pss_nil)
    (pss_cons (ps_set (i := 1) sc_law_text.nd rfl (Or.inl rfl) (pe_lst pa_nil))
    (pss_cons (ps_for PassesOwn.never rfl (pi_tup (pe_ix (r := rIxT K) ix_tup (pv 0) pe_int (fun _ _ => rfl))) (pg_name (i := 2) sc_law_text.nd rfl (Or.inl rfl))
      (pss_one (ps_expr (pe_bm PySem.F.plainAttrs_list PySem.F.slot_list_append PySem.F.type_list_append mt_append (pv 1) (pa_cons (pe_ifExp (pt_cmpR op_in_seq (pe_ix (r := rIxT K) ix_tup (pv 2) pe_int (fun _ _ => rfl)) (pe_tup (pa_cons pe_str (pa_cons pe_str pa_nil))) (by rfl)) (pe_op op_add_str (pe_op op_add_str pe_str (C8.pe_c c_law_text hr (by omega) rfl (pa_cons (pv 2) pa_nil))) pe_str) (C8.pe_c c_law_text hr (by omega) rfl (pa_cons (pv 2) pa_nil))) pa_nil)))))
    (pss_one (ps_ret (pe_ifExp (pt_cmpR (op_neD hr.units) (pv 1) (pe_lst pa_nil) (nomark _)) (pe_join (pe_ifExp (pt_cmpR op_eq (pe_ix (r := rIxT K) ix_tup (pv 0) pe_int (fun _ _ => rfl)) pe_str (nomark _)) pe_str pe_str) (pv 1)) pe_str)))))), ?_⟩
    obtain ⟨a0, xs0, rfl, t1, t2⟩ := hD.at0
    refine ⟨_, rfl, _, _, _, _, rfl, rfl, t1, t2, (by show 2 ≤ sizeLine; decide), fun t ht => ?_⟩
    have s1 : Same H (upd H t (.tup [.str "behind", .str "beside"])) := same_new ht
    refine ⟨t, _, rfl, .inr (SqT.of upd_same), rfl, rfl, _, rfl, ?_⟩
    rw [if_pos rfl, show (!inV (V.str (hw d)) [V.str "behind", V.str "beside"]) = !isBr d from hw_inN hB]
    generalize upd H t (.tup [.str "behind", .str "beside"]) = H1 at s1
    have hD1 := s1.dr hD
    cases d with
    | bx i k =>
      simp only [txt] at q
      simp only [Dr] at hD1
      obtain ⟨a, ea, h1⟩ := hD1
      cases ea
      simp only [BxA] at hB
      obtain ⟨b1, b2, b3⟩ := hB
      obtain ⟨l1, l2⟩ := tx_len i k
      have hk : ((k : Int)).natAbs.log2 < 1920 := by
        rw [Int.natAbs_natCast]
        have := Nat.log2_le_self k
        omega
      have hat : ∀ (j : Nat) x, (bv i k)[j]? = some x → ∃ y, (tx i k)[j]? = some y ∧ ((∃ a, [x] = [V.str a] ∧ y = a) ∨ ∃ z : Int, [x] = [V.int z] ∧ z.natAbs.log2 < 1920 ∧ y = ((toString z : String) : Str)) := by
        intro j x hx
        unfold bv at hx
        unfold tx
        split at hx
        · next c =>
          rw [if_pos c]
          match j, hx with
          | 0, hx =>
            cases hx
            exact ⟨_, rfl, .inl ⟨_, rfl, rfl⟩⟩
          | 1, hx =>
            cases hx
            exact ⟨_, rfl, .inr ⟨_, rfl, hk, rfl⟩⟩
          | j + 2, hx => simp at hx
        · next c =>
          rw [if_neg c]
          match j, hx with
          | 0, hx =>
            cases hx
            exact ⟨_, rfl, .inl ⟨_, rfl, rfl⟩⟩
          | j + 1, hx => simp at hx
      refine iteT ⟨⟨_, rfl⟩, _, rfl, _, rfl, ⟨_, h1⟩, fun o ho => ?_⟩
      refine lc_tup (xs := bv i k) (fun j H' => Same H1 H' ∧ H' o = some (.lst (((tx i k).take j).map V.str))) ⟨same_new ho, by simp [upd_same]⟩ (fun j H' hj hP => hP.1.tup h1) (fun j x H' ex hP => ?_) (fun H' hP => ?_)
      · obtain ⟨e, eo⟩ := hP
        obtain ⟨y, ey, hy⟩ := hat j x ex
        have step : ∃ acc, H' o = some (.lst acc) ∧ acc.length < sizeLine ∧ Same H1 (upd H' o (.lst (acc ++ [.str y]))) ∧ upd H' o (.lst (acc ++ [.str y])) o = some (.lst (((tx i k).take (j + 1)).map V.str)) := by
          refine ⟨_, eo, lt_size (by simp; omega), e.mut ho, ?_⟩
          rw [upd_same, List.take_add_one, ey]
          simp
        refine ⟨rfl, tyes ⟨_, rfl, ?_⟩⟩
        rcases hy with ⟨a, e1, rfl⟩ | ⟨z, e1, e2, rfl⟩
        · exact .inl ⟨_, e1, step⟩
        · exact .inr ⟨_, e1, e2, step⟩
      · obtain ⟨e, eo⟩ := hP
        rw [List.take_of_length_le (by omega)] at eo
        refine ⟨_, _, _, rfl, rfl, .inl (SqL.of eo), bt5 i b1 k (by omega), ?_⟩
        rw [gl_join, bt4 i b1 k (by omega) (by
          cases c : isnum i with
          | true => exact .inl rfl
          | false => exact .inr (b3 c))]
        exact q H' (s1.trans e)
    | br b ps =>
      simp only [Dr] at hD1
      obtain ⟨a, p, vs, ea, h1, h2, h3⟩ := hD1
      cases ea
      have hlen := h3.len
      simp only [BxA] at hB
      simp only [sz] at hz
      simp only [dep] at hn h30
      have hls := len_szs ps
      have hN' : Nfs b ps ∧ (ps = [] → b = false) := by
        rcases hN with z | z
        · cases z
          exact ⟨by simp [Nfs], fun _ => rfl⟩
        · simp only [Nf] at z
          exact ⟨z.2, fun e => by rw [e] at z; simp at z⟩
      refine iteF ⟨Nat.zero_le _, fun o ho => ?_⟩
      have s2 : Same H1 (upd H1 o (.lst [])) := same_new ho
      refine ⟨_, rfl, _, _, _, _, rfl, rfl, s2.tup h1, rfl, _, rfl, ⟨_, s2.tup h2⟩, ?_⟩
      refine for_tup (xs := vs) (fun i σ H' => ∃ (y2 y3 : Option V), σ = [some (.ref a0), some (.ref o), y2, y3] ∧ Same H1 H' ∧ H' o = some (.lst (((ptxts (ps.take i)).map S).map V.str))) ⟨_, _, rfl, s2, by simp [ptxts, upd_same]⟩ (fun i σ H' hi hP => ?_) (fun i x σ H' ex hP => ?_) (fun σ H' hP => ?_)
      · obtain ⟨y2, y3, rfl, e, _⟩ := hP
        exact e.tup h2
      · obtain ⟨y2, y3, rfl, e, eo⟩ := hP
        obtain ⟨d', ed, hd'⟩ := h3.get ex
        have k1 := dep_kid ed
        have k2 := sz_kid ed
        have k3 := ptxts_take ed
        have k4 : (ptxts (ps.take i)).length = (ps.take i).length := (ptx_sum _ (bxa_take ps i hB)).2
        rw [List.length_take] at k4
        have hx := bxa_kid hB ed
        have hnf := nfs_kid hN'.1 ed
        obtain ⟨ax, xx, rfl, g1, g2⟩ := (e.dr hd').at0
        refine ⟨_, rfl, .inl ⟨rfl, _, SqL.of eo⟩, _, rfl, _, _, _, _, rfl, rfl, g1, g2, (by show 2 ≤ sizeLine; decide), fun t3 ht3 => ?_⟩
        have s3 : Same H' (upd H' t3 (.tup [.str "behind", .str "beside"])) := same_new ht3
        refine ⟨t3, _, rfl, .inr (SqT.of upd_same), rfl, rfl, _, rfl, ?_⟩
        rw [if_neg (by decide), show inV (V.str (hw d')) [V.str "behind", V.str "beside"] = isBr d' from hw_in hx]
        generalize upd H' t3 (.tup [.str "behind", .str "beside"]) = H2 at s3
        have fin : ∀ H3, Same H2 H3 → rAppend (.ref o) [.str (S (ptx d'))] H3 fun _ H4 => ∃ (y2 y3' : Option V), [some (.ref a0), some (.ref o), some (.ref ax), y3] = [some (.ref a0), some (.ref o), y2, y3'] ∧ Same H1 H4 ∧ H4 o = some (.lst (((ptxts (ps.take (i + 1))).map S).map V.str)) := by
          intro H3 s4
          have eo3 := s4 _ _ (s3 _ _ eo)
          refine ⟨o, _, _, rfl, rfl, eo3, lt_size (by simp; omega), _, _, rfl, (e.trans (s3.trans s4)).mut ho, ?_⟩
          rw [k3, upd_same]
          simp
        cases d' with
        | bx j k =>
          refine iteF ⟨_, rfl, .ref ax, .bx j k, rfl, (e.trans s3).dr hd', .inr hnf, hx, by omega, by omega, by omega, fun H3 s4 => ?_⟩
          simp only [ptx] at fin
          simp only [txt]
          exact fin H3 s4
        | br c qs =>
          refine iteT ⟨_, rfl, .ref ax, .br c qs, rfl, (e.trans s3).dr hd', .inr hnf, hx, by omega, by omega, by omega, fun H3 s4 => ?_⟩
          have tl := txt_len _ hx
          have z1 : (S [40]).length + (S (txt (.br c qs))).length ≤ 1000000 := by rw [S_len, S_len]; simp only [List.length_cons, List.length_nil]; omega
          have z2 : (S [40] ++ S (txt (.br c qs))).length + (S [41]).length ≤ 1000000 := by rw [S_app, S_len, S_len]; simp only [List.length_cons, List.length_nil, List.length_append]; omega
          refine ⟨_, _, rfl, rfl, le_size z1, _, _, rfl, rfl, le_size z2, ?_⟩
          have z3 : (("(" : String) : Str) ++ S (txt (.br c qs)) ++ ((")" : String) : Str) = S (ptx (.br c qs)) := by
            show S [40] ++ S (txt (.br c qs)) ++ S [41] = _
            rw [S_app, S_app]
            simp only [ptx]
            rfl
          rw [z3]
          exact fin H3 s4
      · obtain ⟨y2, y3, rfl, e, eo⟩ := hP
        rw [List.take_of_length_le (by omega)] at eo
        obtain ⟨z1, z2⟩ := ptx_sum ps hB
        obtain ⟨y1, y2'⟩ := lay_s (ptxts ps) (ptxts_lt ps hB)
        refine ⟨_, rfl, Nat.zero_le _, fun l hl => ?_⟩
        have s4 : Same H' (upd H' l (.lst [])) := same_new hl
        refine ⟨.list (((ptxts ps).map S).map PyData.str), .list [], .lst (SqL.of (s4 _ _ eo)) (dps _ _ _), .lst (SqL.of upd_same) .nil, sh_l1 y1 (by omega), by decide, _, rfl, ?_⟩
        rw [eqv_ni]
        have q1 := q _ (s1.trans (e.trans s4))
        generalize upd H' l (.lst []) = H3 at s4 q1
        cases ps with
        | nil =>
          rw [hN'.2 rfl, txt_E0] at q1
          exact iteF q1
        | cons x r =>
          rw [show (!(List.map PyData.str (List.map S (ptxts (x :: r)))).isEmpty) = true by rw [ptxts_cons]; rfl]
          refine iteT ?_
          refine ⟨_, rfl, _, _, _, _, rfl, rfl, s4.tup (e.tup h1), rfl, rfl, _, rfl, ?_⟩
          rw [show decide (V.str (kw b) = V.str "behind") = b from kw_eqB b]
          have fin2 : ∃ (a : Str) (p : Addr), ∃ ys : List Str, V.str (S (sep b)) = .str a ∧ [V.ref o] = [.ref p] ∧ (SqL K H3 p (ys.map V.str) ∨ SqT K H3 p (ys.map V.str)) ∧ (ys.map (·.length)).sum + ys.length * a.length ≤ 16777216 ∧ Q (.str (Txt.join a ys)) H3 := by
            refine ⟨_, _, _, rfl, rfl, .inl (SqL.of (s4 _ _ eo)), ?_, ?_⟩
            · rw [sum_len, List.length_map, z2, S_len, sep_len]
              omega
            · rw [gl_join, join_S]
              simp only [txt] at q1
              exact q1
          cases b with
          | true => exact iteT ⟨⟨_, rfl⟩, _, rfl, fin2⟩
          | false => exact iteF ⟨⟨_, rfl⟩, _, rfl, fin2⟩
end K9

set_option maxHeartbeats 4000000
namespace K9
open PySem PySem.Spec L2
theorem sub_app : ∀ (u z : List Nat) (d : D), sub d (u ++ z) = (sub d u).bind fun s => sub s z
  | [], z, d => by simp [sub]
  | i :: u, z, .bx _ _ => by simp [sub]
  | i :: u, z, .br b ps => by
    simp only [List.cons_append, sub]
    cases c : ps[i]? with
    | none => simp
    | some d =>
      simp only []
      exact sub_app u z d
theorem put_szE : ∀ (w : List Nat) {d s e : D}, sub d w = some s → sz (put d w e) + sz s = sz d + sz e
  | [], d, s, e, h => by
    simp only [sub] at h
    cases h
    simp only [put]
    omega
  | i :: w, .bx _ _, s, e, h => by simp [sub] at h
  | i :: w, .br b ps, s, e, h => by
    obtain ⟨d, h1, h2⟩ := sub_br h
    have ih := put_szE w (e := e) h2
    have k := szs_set (e := put d w e) h1
    rw [put_br h1]
    simp only [sz]
    omega
theorem Drs_perm {K : PySem.W.Frag} {H : Hp} {vs ys : List V} (h : ys.Perm vs) : ∀ {ps : List D}, Drs K H ps vs → ∃ qs : List D, qs.Perm ps ∧ Drs K H qs ys := by
  induction h with
  | nil => intro ps h; exact ⟨ps, .refl _, h⟩
  | cons x p ih =>
    intro ps h
    cases ps with
    | nil => simp [Drs] at h
    | cons d ps =>
      simp only [Drs] at h
      obtain ⟨v, r, e, h1, h2⟩ := h
      cases e
      obtain ⟨qs, p1, p2⟩ := ih h2
      refine ⟨d :: qs, p1.cons d, ?_⟩
      simp only [Drs]
      exact ⟨_, _, rfl, h1, p2⟩
  | swap x y l =>
    intro ps h
    match ps, h with
    | [], h => simp [Drs] at h
    | [d], h =>
      simp only [Drs] at h
      obtain ⟨v, r, e, h1, h2⟩ := h
      cases e
      cases h2
    | d :: e :: ps, h =>
      simp only [Drs] at h
      obtain ⟨v, r, e1, h1, v2, r2, e2, h2, h3⟩ := h
      cases e1
      cases e2
      refine ⟨e :: d :: ps, List.Perm.swap _ _ _, ?_⟩
      simp only [Drs]
      exact ⟨_, _, rfl, h2, _, _, rfl, h1, h3⟩
  | trans p1 p2 ih1 ih2 =>
    intro ps h
    obtain ⟨qs, a1, a2⟩ := ih2 h
    obtain ⟨rs, b1, b2⟩ := ih1 a2
    exact ⟨rs, b1.trans a1, b2⟩
theorem perm_m {qs ps : List D} (h : qs.Perm ps) : szs qs = szs ps ∧ deps qs = deps ps ∧ ∀ l r, Bs ps l r → Bs qs l r := by
  induction h with
  | nil => exact ⟨rfl, rfl, fun _ _ h => h⟩
  | cons x p ih =>
    obtain ⟨h1, h2, h3⟩ := ih
    refine ⟨by simp only [szs, h1], by simp only [deps, h2], fun l r h => ?_⟩
    simp only [Bs] at h ⊢
    obtain ⟨l1, r1, l2, r2, a, b, c⟩ := h
    exact ⟨l1, r1, l2, r2, a, h3 _ _ b, c⟩
  | swap x y ps =>
    refine ⟨by simp only [szs]; omega, by simp only [deps]; omega, fun l r h => ?_⟩
    simp only [Bs] at h ⊢
    obtain ⟨l1, r1, l2, r2, a, ⟨l3, r3, l4, r4, b, c, rfl, rfl⟩, rfl, rfl⟩ := h
    exact ⟨l3, r3, l1 + l4, r1 + r4, b, ⟨l1, r1, l4, r4, a, c, rfl, rfl⟩, by omega, by omega⟩
  | trans p1 p2 ih1 ih2 =>
    obtain ⟨h1, h2, h3⟩ := ih1
    obtain ⟨g1, g2, g3⟩ := ih2
    exact ⟨h1.trans g1, h2.trans g2, fun l r h => h3 _ _ (g3 _ _ h)⟩
theorem drs_rep {K : PySem.W.Frag} {H : Hp} {d : D} {v : V} (h : Dr K H d v) : ∀ k, Drs K H (List.replicate k d) (List.replicate k v)
  | 0 => by simp [Drs]
  | k + 1 => by
    rw [List.replicate_succ, List.replicate_succ]
    simp only [Drs]
    exact ⟨_, _, rfl, h, drs_rep h k⟩
theorem bs_rep {d : D} {l r : Nat} (h : Tp d l r) : ∀ k, Bs (List.replicate k d) (k * l) (k * r)
  | 0 => by simp [Bs]
  | k + 1 => by
    rw [List.replicate_succ]
    simp only [Bs]
    exact ⟨l, r, k * l, k * r, h, bs_rep h k, by rw [Nat.add_mul]; omega, by rw [Nat.add_mul]; omega⟩
theorem m_rep (d : D) : ∀ k, szs (List.replicate k d) = k * sz d ∧ deps (List.replicate k d) ≤ dep d + 1
  | 0 => by simp [szs, deps]
  | k + 1 => by
    obtain ⟨h1, h2⟩ := m_rep d k
    rw [List.replicate_succ]
    simp only [szs, deps, h1]
    refine ⟨by rw [Nat.add_mul]; omega, by omega⟩
theorem rep_flat (k : Nat) (v : V) : (List.replicate k [v]).flatten = List.replicate k v := by
  induction k with
  | zero => rfl
  | succ k ih => rw [List.replicate_succ, List.flatten_cons, ih, List.replicate_succ]; rfl
theorem mulT_ok {K : PySem.W.Frag} {H : Hp} {a : Addr} {x : V} {k : Nat} {Q : VK} (h : SqT K H a [x]) (hk : k ≤ 1000) (q : ∀ p H', Same H H' → SqT K H' p (List.replicate k x) → Q (.ref p) H') : rMulT K (.ref a) (.int (k : Int)) H Q := by
  refine ⟨a, k, [x], rfl, rfl, h, by simp, hk, by simp, fun p H' hp => ?_⟩
  rw [rep_flat] at hp
  rcases hp with ⟨rfl, hp⟩ | ⟨hp, rfl⟩
  · exact q p _ (Same.refl _) hp
  · exact q p _ (same_new hp) (SqT.of upd_same)
/-- a drawing with the same ends that may stand in its place -/
def Fr (s e : D) : Prop := (∀ l r, Tp s l r → Tp e l r) ∧ dep e ≤ dep s + 2 ∧ sz e ≤ sz s + 40
theorem hw_t : ∀ i, i < 14 → inV (.str (word i)) [.str ("times" : Str), .str ("untimes" : Str)] = isnum i := num_in
/-- a drawing near by: with the same ends, well-formed -/
def spNear (K : PySem.W.Frag) : Sp := fun vs H Q _ => ∃ (t : Kd) (v : V) (d : D) (l r : Nat), vs = [.ref t.dk, v] ∧ Dk H t ∧ Dr K H d v ∧ Tp d l r ∧ l + r ≤ 8 ∧ sz d ≤ 350 ∧ dep d ≤ 8 ∧ ∀ v' d' H', DS t H H' → Dr K H' d' v' → Tp d' l r → sz d' ≤ 390 → dep d' ≤ 10 → Q v' H'
abbrev s_law_near : Stmt := top 52
abbrev N_law_near : List Str := ["_law_deck_here", "_law_sketch", "_law_path", "_law_part", "_law_at", "_law_left", "_law_right", "_law_turn", "_law_fresh", "_law_found"]
theorem sc_law_near : FnScope N_law_near ["_law_deck_here", "_law_sketch"] (C8.fnScope s_law_near) := C8.fnScope_by (by decide +kernel)
theorem ok_law_near {P : Program} {w : World} {K : PySem.W.Frag} {mg : Str → Option Value} {base : Heap} (T : Tp0 w K mg) (F : D0 K mg "_law_near" s_law_near ["_law_deck_here", "_law_sketch"])
    (c_law_draw : C8.Cal P w K mg base 1 "_law_draw" spDraw []) (c_law_pick : C8.Cal P w K mg base 2 "_law_pick" spPick []) (c_law_order : C8.Cal P w K mg base 2 "_law_order" spOrder []) (c_law_level : C8.Cal P w K mg base 3 "_law_level" (spLevel K) [])
    (c_ways : ∀ n, C8.Cal P w K mg base (n + 2) "_law_ways" (spWays K n) []) (c_sides : ∀ n, C8.Cal P w K mg base (n + 2) "_law_sides" (spSides K n) []) (c_put : ∀ n, C8.Cal P w K mg base (n + 2) "_law_put" (spPut K n) [])
    (c_drawing_error : C8.Cal P w K mg base 20 "drawing_error" (spDErr K) []) : C8.Cal P w K mg base 40 "_law_near" (spNear K) [] := by
  have c_law_ways := c_ways 31
  have c_law_sides := c_sides 31
  have c_law_put := c_put 31
  refine F.ok (k := 39) sc_law_near (fun vs H Q E h => ?_) (fun f cdv A outer s H vs Q E hr h => ?_)
  · obtain ⟨_, _, _, _, _, rfl, _⟩ := h
    rfl
  obtain ⟨t, v, d, l, r, rfl, hk, hD, hT, h8, hz, h12, q⟩ := h
  refine ⟨_, (pss_cons (ps_set (i := 2) sc_law_near.nd rfl (Or.inl rfl) (C8.pe_c c_law_pick hr (by omega) rfl (pa_cons (pv 0) (pa_cons (C8.pe_c c_law_ways hr (by omega) rfl (pa_cons (pv 1) (pa_cons (pe_tup pa_nil) pa_nil))) pa_nil))))
    (pss_cons (ps_set (i := 3) sc_law_near.nd rfl (Or.inl rfl) (pv 1))
    (pss_cons (ps_for PassesOwn.never rfl (pi_tup (pv 2)) (pg_name (i := 4) sc_law_near.nd rfl (Or.inl rfl))
      (pss_one (ps_set (i := 3) sc_law_near.nd rfl (Or.inl rfl) (pe_ix (r := rIxT K) ix_tup (pe_ix (r := rIxT K) ix_tup (pv 3) pe_int (fun _ _ => rfl)) (pv 4) (fun _ _ => rfl)))))
    (pss_cons (ps_asg (C8.pe_c c_law_sides hr (by omega) rfl (pa_cons (pv 3) pa_nil)) (pg_unl rfl (pgs_cons (pg_name (i := 5) sc_law_near.nd rfl (Or.inl rfl)) (pgs_cons (pg_name (i := 6) sc_law_near.nd rfl (Or.inl rfl)) pgs_nil))))
    (pss_cons (ps_set (i := 7) sc_law_near.nd rfl (Or.inl rfl) (C8.pe_c c_law_draw hr (by omega) rfl (pa_cons (pv 0) (pa_cons pe_int pa_nil))))
    (pss_cons (ps_set (i := 8) sc_law_near.nd rfl (Or.inl rfl) (pe_tup (pa_cons pe_str (pa_cons (pe_tup (pa_cons (pv 3) (pa_cons (pe_tup (pa_cons pe_str (pa_cons (pe_op op_mulT (pe_tup (pa_cons (pe_tup (pa_cons pe_str pa_nil)) pa_nil)) (pv 6)) pa_nil))) pa_nil))) pa_nil))))
    (pss_cons (ps_if (PW.pt (pw_and (pt_cmpR op_eq (pe_ix (r := rIxT K) ix_tup (pv 3) pe_int (fun _ _ => rfl)) pe_str (nomark _)) (pw_and1 (pt_cmpR op_eq (pv 7) pe_int (nomark _)))))
      (pss_one (ps_set (i := 8) sc_law_near.nd rfl (Or.inl rfl) (pe_tup (pa_cons pe_str (pa_cons (pe_callTy call_tuple_of rfl T.tuple bo_tuple (pa_cons (C8.pe_c c_law_order hr (by omega) rfl (pa_cons (pv 0) (pa_cons (pe_callTy call_list_of rfl T.list bo_list (pa_cons (pe_ix (r := rIxT K) ix_tup (pv 3) pe_int (fun _ _ => rfl)) pa_nil)) pa_nil))) pa_nil)) pa_nil)))))
      (pss_one (ps_if (PW.pt (pw_and (pt_cmpR op_eq (pe_ix (r := rIxT K) ix_tup (pv 3) pe_int (fun _ _ => rfl)) pe_str (nomark _)) (pw_and1 (pt_cmpR op_eq (pv 7) pe_int (nomark _)))))
          (pss_one (ps_set (i := 8) sc_law_near.nd rfl (Or.inl rfl) (pe_tup (pa_cons pe_str (pa_cons (pe_tup (pa_cons (pe_tup (pa_cons pe_str (pa_cons (pe_op op_mulT (pe_tup (pa_cons (pe_tup (pa_cons pe_str (pa_cons (C8.pe_c c_law_draw hr (by omega) rfl (pa_cons (pv 0) (pa_cons pe_int pa_nil))) pa_nil))) pa_nil)) (pv 5)) pa_nil))) (pa_cons (pv 3) pa_nil))) pa_nil)))))
          (pss_one (ps_if (PW.pt (pw_or (pt_cmpR op_in_seq (pe_ix (r := rIxT K) ix_tup (pv 3) pe_int (fun _ _ => rfl)) (pe_tup (pa_cons pe_str (pa_cons pe_str pa_nil))) (by rfl)) (pw_or1 (PW.pt (pw_and (pt_cmpR op_eq (pv 7) pe_int (nomark _)) (pw_and1 (pt_cmpR op_lt (pe_op op_add (pv 5) (pv 6)) pe_int (nomark _))))))))
              (pss_one (ps_set (i := 8) sc_law_near.nd rfl (Or.inl rfl) (C8.pe_c c_law_level hr (by omega) rfl (pa_cons (pv 0) (pa_cons (pv 5) (pa_cons (pv 6) (pa_cons pe_bl pa_nil)))))))
              pss_nil)))))
    (pss_cons (ps_set (i := 9) sc_law_near.nd rfl (Or.inl rfl) (C8.pe_c c_law_put hr (by omega) rfl (pa_cons (pv 1) (pa_cons (pv 2) (pa_cons (pv 8) pa_nil)))))
    (pss_one (ps_ret (pe_ifExp (pt_cmpR op_notN (C8.pe_c c_drawing_error hr (by omega) rfl (pa_cons (pv 9) pa_nil)) pe_non (nomark _)) (pv 1) (pv 9)))))))))))), ?_⟩
  have hB := Tp_BxA hT
  refine ⟨_, rfl, _, rfl, Nat.zero_le _, fun t0 ht0 => ?_⟩
  have s1 : Same H (upd H t0 (.tup [])) := same_new ht0
  refine ⟨v, t0, d, [], rfl, s1.dr hD, SqT.of upd_same, hB, by omega, by simp; omega, by omega, fun ol xs H2 s2 hol eol hne hxl hxs => ?_⟩
  have d2 := DS.of hk (s1.trans s2)
  obtain ⟨n1, n2, n3⟩ := hk.ne (s1.none hol)
  refine ⟨t, ol, xs, rfl, d2.2.2, eol, hne, by omega, n1, n2, fun pv H3 hpv d3 => ?_⟩
  obtain ⟨wy, pw, sd, rfl, hpw, hsub⟩ := d3.2.1.wyR (hxs pv hpv)
  simp only [List.nil_append] at hpw
  have d03 := d2.trans d3
  have hD3 := d03.dr hD
  obtain ⟨wd1, wd2⟩ := sub_dep wy hsub
  refine ⟨_, rfl, _, rfl, _, rfl, ⟨_, hpw⟩, ?_⟩
  refine for_tup (xs := wv wy) (fun i σ H' => ∃ (y4 y5 y6 y7 y8 y9 : Option V) (u : V) (s' : D), σ = [some (.ref t.dk), some v, some (.ref pw), some u, y4, y5, y6, y7, y8, y9] ∧ H' = H3 ∧ sub d (wy.take i) = some s' ∧ Dr K H3 s' u) ⟨_, _, _, _, _, _, v, d, rfl, rfl, by simp [sub], hD3⟩ (fun i σ H' hi hP => ?_) (fun i x σ H' ex hP => ?_) (fun σ H' hP => ?_)
  · obtain ⟨y4, y5, y6, y7, y8, y9, u, s', rfl, rfl, _⟩ := hP
    exact hpw
  · obtain ⟨y4, y5, y6, y7, y8, y9, u, s', rfl, rfl, hs', hu⟩ := hP
    have hi : i < wy.length := by
      have := (List.getElem?_eq_some_iff.mp ex).1
      rwa [wv_len] at this
    have ex' : x = .int (wy[i] : Int) := by
      unfold wv at ex
      rw [List.getElem?_map, List.getElem?_eq_getElem hi] at ex
      cases ex
      rfl
    subst ex'
    have e1 : wy = wy.take i ++ wy[i] :: wy.drop (i + 1) := by rw [← List.drop_eq_getElem_cons hi, List.take_append_drop]
    have e2 : sub d wy = (sub d (wy.take i)).bind fun s => sub s (wy[i] :: wy.drop (i + 1)) := by
      conv => lhs; rw [e1]
      exact sub_app _ _ _
    rw [hsub, hs'] at e2
    have e2 : sub s' (wy[i] :: wy.drop (i + 1)) = some sd := e2.symm
    cases s' with
    | bx j k => simp [sub] at e2
    | br b ps =>
      obtain ⟨d', h1, h2⟩ := sub_br e2
      simp only [Dr] at hu
      obtain ⟨a, p, vs, rfl, g1, g2, g3⟩ := hu
      obtain ⟨v', ev', hd'⟩ := g3.at h1
      refine ⟨_, rfl, _, _, _, _, rfl, rfl, g1, rfl, _, rfl, _, _, _, _, rfl, rfl, g2, atI_nat ev', ?_⟩
      refine ⟨_, _, _, _, _, _, v', d', rfl, rfl, ?_, hd'⟩
      rw [List.take_add_one, List.getElem?_eq_getElem hi, sub_app, hs']
      simp [sub, h1]
  · obtain ⟨y4, y5, y6, y7, y8, y9, u, s', rfl, rfl, hs', hu⟩ := hP
    rw [wv_len, List.take_length, hsub] at hs'
    cases hs'
    obtain ⟨ls, rs, hTs⟩ := sub_tp wy hT hsub
    have hTle := Tp_le hTs
    have hBs := Tp_BxA hTs
    refine ⟨_, rfl, u, sd, ls, rs, rfl, hu, hTs, by omega, by omega, fun oo H4 s4 hoo eoo => ?_⟩
    refine ⟨oo, _, rfl, SqL.of eoo, rfl, _, _, rfl, _, _, rfl, rfl, ?_⟩
    have d04 := d03.same s4
    refine ⟨_, rfl, t, 4, rfl, by omega, by omega, d04.2.2, fun tn H5 htn d5 => ?_⟩
    have d05 := d04.trans d5
    have hu5 := d5.dr (s4.dr hu)
    -- what is done with the fresh part
    have fin : ∀ (x8 : V) (e : D) (H9 : Hp) (y4 y9 : Option V), DS t H5 H9 → Dr K H9 e x8 → Fr sd e →
        tSeq (tAsg (tCall (spPut K 31) [] C8.E0 (tCons (tVar 1) (tCons (tVar 2) (tCons (tVar 8) tNil)))) (gName 9)) (tRet (tIf (tTest (tOp (fun x y H Q => y = V.non ∧ Q (V.bl !decide (x = V.non)) H) (tCall (spDErr K) [] C8.E0 (tCons (tVar 9) tNil)) (tC .non))) (tVar 1) (tVar 9)))
          { nx := fun _ H' => Q .non H', rt := Q } [some (.ref t.dk), some v, some (.ref pw), some u, y4, some (.int (ls : Int)), some (.int (rs : Int)), some (.int (tn : Int)), some x8, y9] H9 := by
      intro x8 e H9 y4 y9 d9 hE hFr
      obtain ⟨f1, f2, f3⟩ := hFr
      have d09 := d05.trans d9
      have k1 := put_szE wy (e := e) hsub
      have k2 := put_dep wy (e := e) (c := 2) hsub f2
      have k3 := put_tp wy hT hsub f1
      refine ⟨_, rfl, _, rfl, _, rfl, v, x8, pw, d, e, sd, wy, rfl, d09.dr hD, ((d5.trans d9).2.1.tup (s4.tup hpw)), hE, hsub, by omega, by omega, by omega, fun v' H10 s10 hv' => ?_⟩
      have nbz := nb_sz (put d wy e)
      refine ⟨_, rfl, v', put d wy e, l, r, rfl, hv', k3, Ln_sz _ (by omega), h8, by omega, by omega, by omega, fun H11 s11 => ?_⟩
      refine ⟨rfl, _, rfl, iteF ⟨_, rfl, ?_⟩⟩
      exact q v' _ _ ((d09.same s10).same s11) (s11.dr hv') k3 (by omega) (by omega)
    -- the first choice
    refine ⟨_, rfl, by show 1 ≤ sizeLine; decide, fun tw htw => ⟨by show 1 ≤ sizeLine; decide, fun tv htv => ?_⟩⟩
    have s6 : Same H5 (upd H5 tw (.tup [.str ("wire" : Str)])) := same_new htw
    have f6 : Dr K (upd H5 tw (.tup [.str ("wire" : Str)])) (.bx 0 0) (.ref tw) := dr_bx0 rfl w_un.2.2.2.2.1 (SqT.of upd_same)
    generalize upd H5 tw (.tup [.str ("wire" : Str)]) = H6 at s6 f6 htv
    have s7 : Same H6 (upd H6 tv (.tup [.ref tw])) := same_new htv
    have f7 : upd H6 tv (.tup [.ref tw]) tv = some (.tup [.ref tw]) := upd_same
    generalize upd H6 tv (.tup [.ref tw]) = H7 at s7 f7
    refine ⟨_, rfl, ?_⟩
    refine mulT_ok (SqT.of f7) (by omega) (fun wp H8 s8 hwp => ?_)
    refine ⟨by show 2 ≤ sizeLine; decide, fun t5 ht5 => ⟨by show 2 ≤ sizeLine; decide, fun t6 ht6 => ⟨by show 2 ≤ sizeLine; decide, fun t7 ht7 => ?_⟩⟩⟩
    have s9 := same_new (o := .tup [.str ("beside" : Str), .ref wp]) ht5
    have s10 := same_new (o := .tup [u, .ref t5]) ht6
    have s11 := same_new (o := .tup [.str ("behind" : Str), .ref t6]) ht7
    have s611 := s6.trans (s7.trans (s8.trans (s9.trans (s10.trans s11))))
    have g5 : Dr K _ (.br false (List.replicate rs (.bx 0 0))) (.ref t5) := dr_br (K := K) (SqT.of upd_same) (s9.tup hwp) (drs_rep ((s7.trans (s8.trans s9)).dr f6) rs)
    have g7 : Dr K (upd (upd (upd H8 t5 (.tup [.str ("beside" : Str), .ref wp])) t6 (.tup [u, .ref t5])) t7 (.tup [.str ("behind" : Str), .ref t6])) (.br true [sd, .br false (List.replicate rs (.bx 0 0))]) (.ref t7) := dr_br (K := K) (SqT.of upd_same) (s11.tup (SqT.of upd_same)) (drs2 (s611.dr hu5) ((s10.trans s11).dr g5))
    generalize upd (upd (upd H8 t5 (.tup [.str ("beside" : Str), .ref wp])) t6 (.tup [u, .ref t5])) t7 (.tup [.str ("behind" : Str), .ref t6]) = H11 at s611 g7
    have wire_tp : Tp (.br false (List.replicate rs (.bx 0 0))) rs rs := by
      have := bs_rep (tp_bx (i := 0) (bok (by decide))) rs
      have e1 : eL 0 = 1 := rfl
      have e2 : eR 0 = 1 := rfl
      rw [e1, e2, Nat.mul_one] at this
      simp only [Tp]
      exact ⟨this, hTle.2, hTle.2⟩
    have fr0 : Fr sd (.br true [sd, .br false (List.replicate rs (.bx 0 0))]) := by
      obtain ⟨m1, m2⟩ := m_rep (.bx 0 0) rs
      refine ⟨fun l' r' h => ?_, ?_, ?_⟩
      · have e1 := Tp_en hTs
        have e2 := Tp_en h
        rw [e1] at e2
        cases e2
        exact Tp_t2 hTs wire_tp
      · simp only [dep, deps] at m2 ⊢
        omega
      · simp only [sz, szs] at m1 ⊢
        omega
    have d11 : DS t H5 H11 := DS.of d5.2.2 s611
    have hu11 := s611.dr hu5
    obtain ⟨au, xu, rfl, u1, u2⟩ := hu11.at0
    -- the third choice, or none
    have third : tIfS (tOr (tTest (tOp (rIn K false) (tOp (rIxT K) (tVar 3) (tC (.int 0))) (tTup (tCons (tC (.str "times")) (tCons (tC (.str "untimes")) tNil))))) (tAnd (tTest (tOp rEq (tVar 7) (tC (.int 2)))) (tTest (tOp (rI0 fun i j => .bl (decide (i < j))) (tOp (rI0 fun i j => .int (i + j)) (tVar 5) (tVar 6)) (tC (.int 5))))))
        (tAsg (tCall (spLevel K) [] C8.E0 (tCons (tVar 0) (tCons (tVar 5) (tCons (tVar 6) (tCons (tC (.bl false)) tNil))))) (gName 8)) tNext
        { nx := tSeq (tAsg (tCall (spPut K 31) [] C8.E0 (tCons (tVar 1) (tCons (tVar 2) (tCons (tVar 8) tNil)))) (gName 9)) (tRet (tIf (tTest (tOp (fun x y H Q => y = V.non ∧ Q (V.bl !decide (x = V.non)) H) (tCall (spDErr K) [] C8.E0 (tCons (tVar 9) tNil)) (tC .non))) (tVar 1) (tVar 9))) { nx := fun _ H' => Q .non H', rt := Q }, rt := Q }
        [some (.ref t.dk), some v, some (.ref pw), some (.ref au), y4, some (.int (ls : Int)), some (.int (rs : Int)), some (.int (tn : Int)), some (.ref t7), y9] H11 := by
      have lev : ∀ H12, Same H11 H12 → tAsg (tCall (spLevel K) [] C8.E0 (tCons (tVar 0) (tCons (tVar 5) (tCons (tVar 6) (tCons (tC (.bl false)) tNil))))) (gName 8)
          { nx := tSeq (tAsg (tCall (spPut K 31) [] C8.E0 (tCons (tVar 1) (tCons (tVar 2) (tCons (tVar 8) tNil)))) (gName 9)) (tRet (tIf (tTest (tOp (fun x y H Q => y = V.non ∧ Q (V.bl !decide (x = V.non)) H) (tCall (spDErr K) [] C8.E0 (tCons (tVar 9) tNil)) (tC .non))) (tVar 1) (tVar 9))) { nx := fun _ H' => Q .non H', rt := Q }, rt := Q }
          [some (.ref t.dk), some v, some (.ref pw), some (.ref au), y4, some (.int (ls : Int)), some (.int (rs : Int)), some (.int (tn : Int)), some (.ref t7), y9] H12 := by
        intro H12 s12
        have d12 := d11.same s12
        refine ⟨_, rfl, _, rfl, _, rfl, t, ls, rs, false, rfl, by omega, by omega, d12.2.2, fun x8 e H13 d13 hE hTe hze hde => ?_⟩
        refine fin x8 e H13 y4 y9 (d12.trans d13) hE ⟨fun l' r' h => ?_, by omega, by omega⟩
        have e1 := Tp_en hTs
        have e2 := Tp_en h
        rw [e1] at e2
        cases e2
        exact hTe
      refine ⟨_, rfl, _, _, _, _, rfl, rfl, u1, u2, by show 2 ≤ sizeLine; decide, fun t8 ht8 => ?_⟩
      have s12 : Same H11 (upd H11 t8 (.tup [.str "times", .str "untimes"])) := same_new ht8
      refine ⟨t8, _, rfl, .inr (SqT.of upd_same), rfl, rfl, _, rfl, ?_⟩
      rw [if_neg (by decide)]
      generalize upd H11 t8 (.tup [.str "times", .str "untimes"]) = H12 at s12
      cases c : inV (V.str (hw sd)) [V.str "times", V.str "untimes"] with
      | true => exact iteT (lev H12 s12)
      | false =>
        refine iteF ⟨_, rfl, rfl, _, rfl, ?_⟩
        by_cases c2 : tn = 2
        · rw [decide_eq_true (by rw [c2]; rfl)]
          refine iteT ⟨_, rfl, _, rfl, _, _, rfl, rfl, _, _, rfl, rfl, _, rfl, ?_⟩
          by_cases c5 : ls + rs < 5
          · rw [decide_eq_true (by omega : (ls : Int) + (rs : Int) < 5)]
            exact iteT (lev H12 s12)
          · rw [decide_eq_false (by omega : ¬ (ls : Int) + (rs : Int) < 5)]
            exact iteF (fin _ _ _ _ _ (d11.same s12) (s12.dr g7) fr0)
        · rw [decide_eq_false (by simp only [V.int.injEq]; omega)]
          exact iteF (fin _ _ _ _ _ (d11.same s12) (s12.dr g7) fr0)
    refine ⟨_, rfl, _, _, _, _, rfl, rfl, u1, u2, rfl, _, rfl, ?_⟩
    rw [show decide (V.str (hw sd) = V.str "beside") = isB false sd from hw_eq hBs false]
    cases sd with
    | bx i k =>
      refine iteF ⟨_, rfl, _, _, _, _, rfl, rfl, u1, u2, rfl, _, rfl, ?_⟩
      rw [show decide (V.str (hw (.bx i k)) = V.str "behind") = isB true (.bx i k) from hw_eq hBs true]
      exact iteF third
    | br b ps =>
      simp only [Dr] at hu11
      obtain ⟨au', pu, vu, ea, v1, v2, v3⟩ := hu11
      cases ea
      cases b with
      | false =>
        refine iteT ⟨_, rfl, rfl, _, rfl, ?_⟩
        by_cases c0 : tn = 0
        · rw [decide_eq_true (by rw [c0]; rfl)]
          refine iteT ⟨_, rfl, _, rfl, _, _, _, _, rfl, rfl, v1, rfl, _, _, rfl, .inr v2, fun lo hlo => ?_⟩
          have s12 : Same H11 (upd H11 lo (.lst vu)) := same_new hlo
          have d12 := d11.same s12
          have hvl := v3.len
          have hls := len_szs ps
          simp only [sz] at wd2
          refine ⟨t, lo, vu, rfl, d12.2.2, upd_same, by omega, fun ol2 ys H13 hpm d13 hol2 eol2 => ?_⟩
          obtain ⟨qs, p1, p2⟩ := Drs_perm hpm (d13.drs (s12.drs v3))
          obtain ⟨m1, m2, m3⟩ := perm_m p1
          refine ⟨_, _, rfl, .inl ⟨SqL.of eol2, fun t9 ht9 => ⟨by show 2 ≤ sizeLine; decide, fun t10 ht10 => ?_⟩⟩⟩
          have s14 := same_new (o := .tup ys) ht9
          have s15 := same_new (o := .tup [.str ("beside" : Str), .ref t9]) ht10
          refine fin _ (.br false qs) _ _ _ (((d12.trans d13).same s14).same s15) (dr_br (SqT.of upd_same) (s15.tup (SqT.of upd_same)) ((s14.trans s15).drs p2)) ⟨fun l' r' h => ?_, ?_, ?_⟩
          · simp only [Tp] at h ⊢
            exact ⟨m3 _ _ h.1, h.2⟩
          · simp only [dep]
            omega
          · simp only [sz]
            omega
        · rw [decide_eq_false (by simp only [V.int.injEq]; omega)]
          exact iteF ⟨_, rfl, _, _, _, _, rfl, rfl, u1, u2, rfl, _, rfl, iteF third⟩
      | true =>
        refine iteF ⟨_, rfl, _, _, _, _, rfl, rfl, u1, u2, rfl, _, rfl, iteT ⟨_, rfl, rfl, _, rfl, ?_⟩⟩
        by_cases c1 : tn = 1
        · rw [decide_eq_true (by rw [c1]; rfl)]
          refine iteT ⟨_, rfl, t, 7, rfl, by omega, by omega, d11.2.2, fun k H12 hk12 d12 => ⟨by show 2 ≤ sizeLine; decide, fun tb htb => ⟨by show 1 ≤ sizeLine; decide, fun tc htc => ?_⟩⟩⟩
          have s13 : Same H12 (upd H12 tb (.tup [.str ("times" : Str), .int (k : Int)])) := same_new htb
          have f13 : Dr K (upd H12 tb (.tup [.str ("times" : Str), .int (k : Int)])) (.bx 6 k) (.ref tb) := dr_bxk rfl w_un.2.2.2.2.2.1 (SqT.of upd_same)
          generalize upd H12 tb (.tup [.str ("times" : Str), .int (k : Int)]) = H13 at s13 f13 htc
          have s14 : Same H13 (upd H13 tc (.tup [.ref tb])) := same_new htc
          have f14 : upd H13 tc (.tup [.ref tb]) tc = some (.tup [.ref tb]) := upd_same
          generalize upd H13 tc (.tup [.ref tb]) = H14 at s14 f14
          refine ⟨_, rfl, ?_⟩
          refine mulT_ok (SqT.of f14) (by omega) (fun wp2 H15 s15 hwp2 => ?_)
          refine ⟨by show 2 ≤ sizeLine; decide, fun t5' ht5' => ⟨_, rfl, by show 2 ≤ sizeLine; decide, fun t6' ht6' => ⟨by show 2 ≤ sizeLine; decide, fun t7' ht7' => ?_⟩⟩⟩
          have s16 := same_new (o := .tup [.str ("beside" : Str), .ref wp2]) ht5'
          have s17 := same_new (o := .tup [.ref t5', .ref au]) ht6'
          have s18 := same_new (o := .tup [.str ("behind" : Str), .ref t6']) ht7'
          have s1318 := s13.trans (s14.trans (s15.trans (s16.trans (s17.trans s18))))
          have g5' : Dr K _ (.br false (List.replicate ls (.bx 6 k))) (.ref t5') := dr_br (K := K) (SqT.of upd_same) (s16.tup hwp2) (drs_rep ((s14.trans (s15.trans s16)).dr f13) ls)
          have hu12 : Dr K H11 (.br true ps) (.ref au) := dr_br v1 v2 v3
          have g7' : Dr K _ (.br true [.br false (List.replicate ls (.bx 6 k)), .br true ps]) (.ref t7') := dr_br (K := K) (SqT.of upd_same) (s18.tup (SqT.of upd_same)) (drs2 ((s17.trans s18).dr g5') (s1318.dr (d12.dr hu12)))
          have tm_tp : Tp (.br false (List.replicate ls (.bx 6 k))) ls ls := by
            have ok : BxOk 6 k := ⟨by omega, by omega, fun z => by cases z⟩
            have := bs_rep (tp_bx ok) ls
            have e1 : eL 6 = 1 := rfl
            have e2 : eR 6 = 1 := rfl
            rw [e1, e2, Nat.mul_one] at this
            simp only [Tp]
            exact ⟨this, hTle.1, hTle.1⟩
          obtain ⟨m1, m2⟩ := m_rep (.bx 6 k) ls
          refine fin _ _ _ _ _ ((d11.trans d12).same s1318) g7' ⟨fun l' r' h => ?_, ?_, ?_⟩
          · have e1 := Tp_en hTs
            have e2 := Tp_en h
            rw [e1] at e2
            cases e2
            exact Tp_t2 tm_tp hTs
          · simp only [dep, deps] at m2 ⊢
            omega
          · simp only [sz, szs] at m1 ⊢
            omega
        · rw [decide_eq_false (by simp only [V.int.injEq]; omega)]
          exact iteF third
end K9

set_option maxHeartbeats 4000000
namespace K9
open PySem PySem.Spec L2
/-! ### brackets more -/
theorem fin_add (c : Bool) {y : D} (n : y = E0D ∨ Nf y) : fin c (addD c y) = y := by
  cases y with
  | bx i k => rfl
  | br e qs =>
    rcases n with n | n
    · cases n
      cases c <;> rfl
    · simp only [Nf] at n
      by_cases h : e = c
      · subst h
        simp only [addD, if_pos rfl]
        match qs, n with
        | a :: b :: r, _ => rfl
      · simp only [addD, if_neg h]
        match qs, n with
        | a :: b :: r, _ => rfl
theorem flat_wrap (c : Bool) (x : D) : flat (.br c [x]) = flat x := by
  simp only [flat, fls, List.append_nil]
  exact fin_add c (flat_nf x)
theorem fls_app (b : Bool) : ∀ ps qs : List D, fls b (ps ++ qs) = fls b ps ++ fls b qs
  | [], qs => by simp [fls]
  | d :: ps, qs => by simp only [List.cons_append, fls, fls_app b ps qs, List.append_assoc]
theorem add_E0 (b : Bool) : addD b E0D = [] := by cases b <;> rfl
theorem add_fin (b : Bool) : ∀ {xs : List D}, Nfs b xs → addD b (fin b xs) = xs
  | [], _ => by simp only [fin]; exact add_E0 b
  | [x], h => by
    simp only [Nfs] at h
    simp only [fin]
    cases x with
    | bx i k => rfl
    | br c qs =>
      have hc := h.2.1 c qs rfl
      have hn := h.1
      simp only [Nf] at hn
      simp only [addD, if_neg hc]
      match qs, hn with
      | a :: e :: r, _ => rfl
  | x :: y :: r, _ => by simp [fin, addD]
theorem fls_grp (b : Bool) (p m q : List D) : fls b (p ++ [.br b m] ++ q) = fls b (p ++ m ++ q) := by
  simp only [fls_app, fls, List.append_nil, flat, add_fin b (fls_nf b m)]
theorem fls_ins (b : Bool) (p q : List D) {z : D} (h : flat z = E0D) : fls b (p ++ [z] ++ q) = fls b (p ++ q) := by
  simp only [fls_app, fls, List.append_nil, h, add_E0]
def Sq : Bool → List D → Nat → Nat → Prop
  | true, ps, l, r => Ch ps l r
  | false, ps, l, r => Bs ps l r
theorem Ch_split : ∀ {p q : List D} {l r : Nat}, Ch (p ++ q) l r → ∃ m, Ch p l m ∧ Ch q m r
  | [], q, l, r, h => ⟨l, by simp [Ch], h⟩
  | d :: p, q, l, r, h => by
    simp only [List.cons_append, Ch] at h
    obtain ⟨m, h1, h2⟩ := h
    obtain ⟨m2, h3, h4⟩ := Ch_split h2
    refine ⟨m2, ?_, h4⟩
    simp only [Ch]
    exact ⟨m, h1, h3⟩
theorem Bs_split : ∀ {p q : List D} {l r : Nat}, Bs (p ++ q) l r → ∃ l1 r1 l2 r2, Bs p l1 r1 ∧ Bs q l2 r2 ∧ l = l1 + l2 ∧ r = r1 + r2
  | [], q, l, r, h => ⟨0, 0, l, r, by simp [Bs], h, by omega, by omega⟩
  | d :: p, q, l, r, h => by
    simp only [List.cons_append, Bs] at h
    obtain ⟨l1, r1, l2, r2, h1, h2, rfl, rfl⟩ := h
    obtain ⟨l3, r3, l4, r4, h3, h4, rfl, rfl⟩ := Bs_split h2
    refine ⟨l1 + l3, r1 + r3, l4, r4, ?_, h4, by omega, by omega⟩
    simp only [Bs]
    exact ⟨l1, r1, l3, r3, h1, h3, rfl, rfl⟩
theorem Ch_le : ∀ {m : List D} {a c : Nat}, Ch m a c → m ≠ [] → a ≤ 16 ∧ c ≤ 16
  | [], _, _, _, h => absurd rfl h
  | [d], a, c, h, _ => by
    simp only [Ch] at h
    obtain ⟨m, h1, rfl⟩ := h
    exact Tp_le h1
  | d :: e :: r, a, c, h, _ => by
    rw [Ch] at h
    obtain ⟨m, h1, h2⟩ := h
    exact ⟨(Tp_le h1).1, (Ch_le h2 (by simp)).2⟩
theorem Sq_ins {b : Bool} {p q : List D} {l r : Nat} {z : D} (h : Sq b (p ++ q) l r) (hz : Tp z 0 0) (h0 : b = true → Ch p l 0 ∧ Ch q 0 r) : Sq b (p ++ [z] ++ q) l r := by
  cases b with
  | true =>
    obtain ⟨h1, h2⟩ := h0 rfl
    simp only [Sq]
    refine Ch_app (Ch_app h1 (m := 0) (r := 0) ?_) h2
    simp only [Ch]
    exact ⟨0, hz, rfl⟩
  | false =>
    simp only [Sq] at h ⊢
    obtain ⟨l1, r1, l2, r2, h1, h2, rfl, rfl⟩ := Bs_split h
    have hz1 : Bs [z] 0 0 := by
      simp only [Bs]
      exact ⟨0, 0, 0, 0, hz, ⟨rfl, rfl⟩, rfl, rfl⟩
    have := Bs_app (Bs_app h1 hz1) h2
    simpa using this
theorem Sq_grp {b : Bool} {p m q : List D} {l r : Nat} (h : Sq b (p ++ m ++ q) l r) (hl : l ≤ 16) (hr : r ≤ 16) (hm : m ≠ []) : Sq b (p ++ [.br b m] ++ q) l r := by
  cases b with
  | true =>
    simp only [Sq] at h ⊢
    obtain ⟨c, h1, h2⟩ := Ch_split h
    obtain ⟨a, h3, h4⟩ := Ch_split h1
    have z := Ch_le h4 hm
    refine Ch_app (Ch_app h3 (m := a) (r := c) ?_) h2
    simp only [Ch, Tp]
    exact ⟨c, ⟨hm, h4, z.1, z.2⟩, rfl⟩
  | false =>
    simp only [Sq] at h ⊢
    obtain ⟨l1, r1, l2, r2, h1, h2, rfl, rfl⟩ := Bs_split h
    obtain ⟨l3, r3, l4, r4, h3, h4, rfl, rfl⟩ := Bs_split h1
    have hz1 : Bs [.br false m] l4 r4 := by
      simp only [Bs, Tp]
      exact ⟨l4, r4, 0, 0, ⟨h4, by omega, by omega⟩, ⟨rfl, rfl⟩, rfl, rfl⟩
    exact Bs_app (Bs_app h3 hz1) h2
theorem Sq_tp {b : Bool} {ps : List D} {l r : Nat} (h : Sq b ps l r) (hl : l ≤ 16) (hr : r ≤ 16) (hn : b = true → ps ≠ []) : Tp (.br b ps) l r := by
  cases b with
  | true =>
    simp only [Tp]
    exact ⟨hn rfl, h, hl, hr⟩
  | false =>
    simp only [Tp]
    exact ⟨h, hl, hr⟩
theorem Sq_of {b : Bool} {ps : List D} {l r : Nat} (h : Tp (.br b ps) l r) : Sq b ps l r ∧ l ≤ 16 ∧ r ≤ 16 ∧ (b = true → ps ≠ []) := by
  cases b with
  | true =>
    simp only [Tp] at h
    exact ⟨h.2.1, h.2.2.1, h.2.2.2, fun _ => h.1⟩
  | false =>
    simp only [Tp] at h
    exact ⟨h.1, h.2.1, h.2.2, fun z => by cases z⟩
/-- with brackets more, else alike -/
def BR (d e : D) : Prop := flat e = flat d ∧ (∀ l r, Tp d l r → Tp e l r) ∧ sz e ≤ 5 * sz d ∧ dep e ≤ 2 * dep d + 3
def BRs : List D → List D → Prop
  | [], qs => qs = []
  | d :: ps, qs => ∃ e r, qs = e :: r ∧ BR d e ∧ BRs ps r
theorem BRs.app : ∀ {ps ps' qs qs' : List D}, BRs ps qs → BRs ps' qs' → BRs (ps ++ ps') (qs ++ qs')
  | [], ps', qs, qs', h, h' => by
    simp only [BRs] at h
    subst h
    exact h'
  | d :: ps, ps', qs, qs', h, h' => by
    simp only [BRs] at h
    obtain ⟨e, r, rfl, h1, h2⟩ := h
    simp only [List.cons_append, BRs]
    exact ⟨e, r ++ qs', rfl, h1, BRs.app h2 h'⟩
theorem BRs.all : ∀ {ps qs : List D}, BRs ps qs → qs.length = ps.length ∧ szs qs ≤ 5 * szs ps ∧ deps qs ≤ 2 * deps ps + 2 ∧ (∀ b, fls b qs = fls b ps) ∧ (∀ l r, Ch ps l r → Ch qs l r) ∧ (∀ l r, Bs ps l r → Bs qs l r)
  | [], qs, h => by
    simp only [BRs] at h
    subst h
    exact ⟨rfl, by simp [szs], by simp [deps], fun _ => rfl, fun _ _ h => h, fun _ _ h => h⟩
  | d :: ps, qs, h => by
    simp only [BRs] at h
    obtain ⟨e, r, rfl, ⟨a1, a2, a3, a4⟩, h2⟩ := h
    obtain ⟨b1, b2, b3, b4, b5, b6⟩ := BRs.all h2
    refine ⟨by simp [b1], by simp only [szs]; omega, by simp only [deps]; omega, fun b => by simp only [fls, a1, b4], fun l r h => ?_, fun l r h => ?_⟩
    · simp only [Ch] at h ⊢
      obtain ⟨m, h1, h2⟩ := h
      exact ⟨m, a2 _ _ h1, b5 _ _ h2⟩
    · simp only [Bs] at h ⊢
      obtain ⟨l1, r1, l2, r2, h1, h2, h3⟩ := h
      exact ⟨l1, r1, l2, r2, a2 _ _ h1, b6 _ _ h2, h3⟩
theorem BRs.sq {b : Bool} {ps qs : List D} {l r : Nat} (h : BRs ps qs) (s : Sq b ps l r) : Sq b qs l r := by
  obtain ⟨_, _, _, _, h5, h6⟩ := h.all
  cases b
  · exact h6 _ _ s
  · exact h5 _ _ s
/-- a statement's promise first, what follows then -/
theorem ts_by {ts : TS} {D : Ends} {σ : L2.St} {H : Hp} (S : L2.St → Hp → Prop) (h : ∀ N : L2.St → Hp → Prop, (∀ σ' H', S σ' H' → N σ' H') → ts { D with nx := N } σ H) (k : ∀ σ' H', S σ' H' → D.nx σ' H') : ts D σ H := h D.nx k
theorem Sq_bxa {b : Bool} {ps : List D} {l r : Nat} (h : Sq b ps l r) : BxAs ps := by
  cases b
  · exact Bs_BxA h
  · exact Ch_BxA h
/-- the boundary of a chain at a place -/
theorem Ch_at {ps : List D} {l r i : Nat} (h : Ch ps l r) (hi : i ≤ ps.length) (hne : ps ≠ []) {e : Nat} (he : (0 < i → ∀ d, ps[i - 1]? = some d → e = (en d).2) ∧ (i = 0 → ∀ d, ps[0]? = some d → e = (en d).1)) : Ch (ps.take i) l e ∧ Ch (ps.drop i) e r := by
  have h' := h
  rw [← List.take_append_drop i ps] at h'
  obtain ⟨m, h1, h2⟩ := Ch_split h'
  have hem : e = m := by
    by_cases c : 0 < i
    · have hlt : i - 1 < ps.length := by omega
      have g := List.getElem?_eq_getElem hlt
      rw [he.1 c _ g]
      have hn : ps.take i ≠ [] := by
        intro z
        have := congrArg List.length z
        rw [List.length_take, List.length_nil] at this
        omega
      have := (Ch_en h1 hn).2
      have hl : (ps.take i).length = i := by rw [List.length_take]; omega
      have g2 : (ps.take i)[(ps.take i).length - 1]? = some ps[i - 1] := by
        rw [hl, List.getElem?_take, if_pos (by omega)]
        exact g
      rw [← this, enR_at g2]
    · have z : i = 0 := by omega
      subst z
      have hpos : 0 < ps.length := List.length_pos_iff.mpr hne
      have g := List.getElem?_eq_getElem hpos
      rw [he.2 rfl _ g]
      have := (Ch_en h hne).1
      rw [enL_at g] at this
      simp only [List.take_zero, Ch] at h1
      omega
  subst hem
  exact ⟨h1, h2⟩
theorem Drs.take : ∀ {K : PySem.W.Frag} {H : Hp} {ps : List D} {vs : List V} (i : Nat), Drs K H ps vs → Drs K H (ps.take i) (vs.take i) ∧ Drs K H (ps.drop i) (vs.drop i)
  | K, H, [], vs, i, h => by
    simp only [Drs] at h
    subst h
    simp [Drs]
  | K, H, d :: ps, vs, 0, h => by
    simp [Drs]
    simpa [Drs] using h
  | K, H, d :: ps, vs, i + 1, h => by
    simp only [Drs] at h
    obtain ⟨v, r, rfl, h1, h2⟩ := h
    obtain ⟨h3, h4⟩ := Drs.take i h2
    simp only [List.take_succ_cons, List.drop_succ_cons, Drs]
    exact ⟨⟨v, _, rfl, h1, h3⟩, h4⟩
theorem cut_mid {xs : List V} {i j : Nat} (h : j ≤ xs.length) (hi : i ≤ j) : cutV xs (some (i : Int)) (some (j : Int)) = (xs.drop i).take (j - i) := by
  unfold cutV
  rw [HT.sIx_nat, HT.sIx_nat, Nat.min_eq_left (show i ≤ xs.length by omega), Nat.min_eq_left h]
theorem szs_split (ps : List D) (i : Nat) : szs (ps.take i) + szs (ps.drop i) = szs ps := by
  rw [← szs_app, List.take_append_drop]
theorem deps_split (ps : List D) (i : Nat) : max (deps (ps.take i)) (deps (ps.drop i)) = deps ps := by
  rw [← deps_app, List.take_append_drop]
end K9

set_option maxHeartbeats 4000000
namespace K9
open PySem PySem.Spec L2
/-- the drawing with brackets more -/
def spBrack (K : PySem.W.Frag) (n : Nat) : Sp := fun vs H Q _ => ∃ (t : Kd) (v : V) (d : D) (l r : Nat), vs = [.ref t.dk, v] ∧ Dk H t ∧ Dr K H d v ∧ Tp d l r ∧ sz d ≤ 400 ∧ dep d ≤ 10 ∧ dep d + 1 ≤ n ∧ ∀ v' d' H', DS t H H' → Dr K H' d' v' → BR d d' → Q v' H'
theorem BR.refl {d : D} : BR d d := ⟨rfl, fun _ _ h => h, by omega, by omega⟩
theorem sz_pos (d : D) : 1 ≤ sz d := by cases d <;> simp only [sz] <;> omega
theorem BR.wrap {d e : D} (c : Bool) (h : BR d e) (hz : sz e + 1 ≤ 5 * sz d) (hd : dep e + 1 ≤ 2 * dep d + 3) : BR d (.br c [e]) := by
  obtain ⟨h1, h2, h3, h4⟩ := h
  refine ⟨by rw [flat_wrap, h1], fun l r h => ?_, by simp only [sz, szs]; omega, by simp only [dep, deps]; omega⟩
  cases c
  · exact Tp_f1 (h2 _ _ h)
  · exact Tp_t1 (h2 _ _ h)
abbrev s_law_bracketed : Stmt := top 48
abbrev N_law_bracketed : List Str := ["_law_deck_here", "_law_sketch", "_law_word", "_law_parts", "_law_turn", "_law_at", "_law_bare_here", "_law_edge", "_law_to", "_law_found", "_law_part"]
theorem sc_law_bracketed : FnScope N_law_bracketed ["_law_deck_here", "_law_sketch"] (C8.fnScope s_law_bracketed) := C8.fnScope_by (by decide +kernel)
theorem ok_law_bracketed {P : Program} {w : World} {K : PySem.W.Frag} {mg : Str → Option Value} {base : Heap} (T : Tp0 w K mg) (F : D0 K mg "_law_bracketed" s_law_bracketed ["_law_deck_here", "_law_sketch"])
    (c_law_draw : C8.Cal P w K mg base 1 "_law_draw" spDraw []) (c_law_pick : C8.Cal P w K mg base 2 "_law_pick" spPick []) (c_law_sides : C8.Cal P w K mg base 40 "_law_sides" (spSides K 38) []) : ∀ n, C8.Cal P w K mg base (n + 41) "_law_bracketed" (spBrack K n) []
  | 0 => F.vac fun vs H Q E h => by
    obtain ⟨_, _, _, _, _, _, _, _, _, _, _, h, _⟩ := h
    omega
  | n + 1 => by
    have c_law_bracketed := ok_law_bracketed (P := P) (base := base) T F c_law_draw c_law_pick c_law_sides n
    refine F.ok sc_law_bracketed (fun vs H Q E h => ?_) (fun f cdv A outer s H vs Q E hr h => ?_)
    · obtain ⟨_, _, _, _, _, rfl, _⟩ := h
      rfl
    obtain ⟨t, v, d, l, r, rfl, hk, hD, hT, hz, h10, hn, q⟩ := h
    refine ⟨_, (pss_cons (ps_if (pt_cmpR op_notIn_seq (pe_ix (r := rIxT K) ix_tup (pv 1) pe_int (fun _ _ => rfl)) (pe_tup (pa_cons pe_str (pa_cons pe_str pa_nil))) (by rfl))
      (pss_one (ps_ret (C8.pe_c c_law_pick hr (by omega) rfl (pa_cons (pv 0) (pa_cons (pe_lst (pa_cons (pv 1) (pa_cons (pv 1) (pa_cons (pv 1) (pa_cons (pe_tup (pa_cons pe_str (pa_cons (pe_tup (pa_cons (pv 1) pa_nil)) pa_nil))) (pa_cons (pe_tup (pa_cons pe_str (pa_cons (pe_tup (pa_cons (pv 1) pa_nil)) pa_nil))) pa_nil)))))) pa_nil)))))
      pss_nil)
    (pss_cons (ps_par (i := 2) (j := 3) rfl sc_law_bracketed.nd rfl rfl (by decide) rfl rfl (pa_cons (pe_ix (r := rIxT K) ix_tup (pv 1) pe_int (fun _ _ => rfl)) (pa_cons (pe_lc (own := [("_law_part", 10)]) (g := gName 10) (tt := tYes) rfl sc_law_bracketed.nd (pi_tup (pe_ix (r := rIxT K) ix_tup (pv 1) pe_int (fun _ _ => rfl))) (blkOk_by (N := N_law_bracketed) (sc := C8.fnScope s_law_bracketed) (by decide +kernel)) (fun _ _ _ _ _ => (pg_name (i := 10) sc_law_bracketed.nd rfl (Or.inl rfl))) (fun _ _ _ _ _ => pts_nil) (fun _ _ _ _ _ => (C8.pe_c c_law_bracketed hr (by omega) rfl (pa_cons (pv 0) (pa_cons (pv 10) pa_nil))))) pa_nil)) (by rfl))
    (pss_cons (ps_par3 (i := 4) (j := 5) (l := 6) rfl sc_law_bracketed.nd rfl rfl rfl (by decide) (by decide) (by decide) rfl rfl rfl (pa_cons (C8.pe_c c_law_draw hr (by omega) rfl (pa_cons (pv 0) (pa_cons pe_int pa_nil))) (pa_cons (C8.pe_c c_law_draw hr (by omega) rfl (pa_cons (pv 0) (pa_cons (pe_op op_add (pe_callB call_len_seq rfl T.len bo_len (pa_cons (pv 3) pa_nil)) pe_int) pa_nil))) (pa_cons (pe_tup (pa_cons pe_str (pa_cons (pe_tup pa_nil) pa_nil))) pa_nil))) (by rfl))
    (pss_cons (ps_set (i := 7) sc_law_bracketed.nd rfl (Or.inl rfl) (pe_ifExp (pt_cmpR op_eq (pv 2) pe_str (nomark _)) pe_int (pe_ifExp (pt_cmpR op_gt (pv 5) pe_int (nomark _)) (pe_ix (r := rIxL K) ix_list (C8.pe_c c_law_sides hr (by omega) rfl (pa_cons (pe_ix (r := rIxL K) ix_list (pv 3) (pe_op op_sub (pv 5) pe_int) (fun _ _ => rfl)) pa_nil)) pe_int (fun _ _ => rfl)) (pe_ix (r := rIxL K) ix_list (C8.pe_c c_law_sides hr (by omega) rfl (pa_cons (pe_ix (r := rIxL K) ix_list (pv 3) pe_int (fun _ _ => rfl)) pa_nil)) pe_int (fun _ _ => rfl)))))
    (pss_cons (ps_if (PW.pt (pw_and (pt_cmpR op_eq (pv 7) pe_int (nomark _)) (pw_and1 (pt_cmpR op_eq (C8.pe_c c_law_draw hr (by omega) rfl (pa_cons (pv 0) (pa_cons pe_int pa_nil))) pe_int (nomark _)))))
      (pss_one (ps_expr (pe_bm PySem.F.plainAttrs_list PySem.F.slot_list_insert PySem.F.type_list_insert mt_insert (pv 3) (pa_cons (pv 5) (pa_cons (C8.pe_c c_law_pick hr (by omega) rfl (pa_cons (pv 0) (pa_cons (pe_lst (pa_cons (pv 6) (pa_cons (pv 6) (pa_cons (pe_tup (pa_cons pe_str (pa_cons (pe_tup (pa_cons (pv 6) pa_nil)) pa_nil))) pa_nil)))) pa_nil))) pa_nil)))))
      pss_nil)
    (pss_cons (ps_if (PW.pt (pw_and (pt_cmpR op_eq (pv 4) pe_int (nomark _)) (pw_and1 (pt_cmpR (op_neD hr.units) (pv 3) (pe_lst pa_nil) (nomark _)))))
      (pss_cons (ps_set (i := 5) sc_law_bracketed.nd rfl (Or.inl rfl) (C8.pe_c c_law_draw hr (by omega) rfl (pa_cons (pv 0) (pa_cons (pe_callB call_len_seq rfl T.len bo_len (pa_cons (pv 3) pa_nil)) pa_nil))))
        (pss_cons (ps_set (i := 8) sc_law_bracketed.nd rfl (Or.inl rfl) (pe_op op_add (pe_op op_add (pv 5) pe_int) (C8.pe_c c_law_draw hr (by omega) rfl (pa_cons (pv 0) (pa_cons (pe_op op_sub (pe_callB call_len_seq rfl T.len bo_len (pa_cons (pv 3) pa_nil)) (pv 5)) pa_nil)))))
        (pss_one (ps_set (i := 3) sc_law_bracketed.nd rfl (Or.inl rfl) (pe_op op_cat (pe_op op_cat (pe_slice sl_list (pv 3) po_none (po_some (pv 5))) (pe_lst (pa_cons (pe_tup (pa_cons (pv 2) (pa_cons (pe_callTy call_tuple_of rfl T.tuple bo_tuple (pa_cons (pe_slice sl_list (pv 3) (po_some (pv 5)) (po_some (pv 8))) pa_nil)) pa_nil))) pa_nil))) (pe_slice sl_list (pv 3) (po_some (pv 8)) po_none))))))
      pss_nil)
    (pss_cons (ps_set (i := 9) sc_law_bracketed.nd rfl (Or.inl rfl) (pe_tup (pa_cons (pv 2) (pa_cons (pe_callTy call_tuple_of rfl T.tuple bo_tuple (pa_cons (pv 3) pa_nil)) pa_nil))))
    (pss_one (ps_ret (pe_ifExp (pt_cmpR op_eq (pv 4) pe_int (nomark _)) (pe_tup (pa_cons (C8.pe_c c_law_pick hr (by omega) rfl (pa_cons (pv 0) (pa_cons (pe_lst (pa_cons pe_str (pa_cons pe_str pa_nil))) pa_nil))) (pa_cons (pe_tup (pa_cons (pv 9) pa_nil)) pa_nil))) (pv 9))))))))))), ?_⟩
    have hB := Tp_BxA hT
    obtain ⟨a0, xs0, rfl, t1, t2⟩ := hD.at0
    refine ⟨_, rfl, _, _, _, _, rfl, rfl, t1, t2, (by show 2 ≤ sizeLine; decide), fun t0 ht0 => ?_⟩
    have s1 : Same H (upd H t0 (.tup [.str "behind", .str "beside"])) := same_new ht0
    refine ⟨t0, _, rfl, .inr (SqT.of upd_same), rfl, rfl, _, rfl, ?_⟩
    rw [if_pos rfl, show (!inV (V.str (hw d)) [V.str "behind", V.str "beside"]) = !isBr d from hw_inN hB]
    generalize upd H t0 (.tup [.str "behind", .str "beside"]) = H1 at s1
    have d1 := DS.of hk s1
    have hD1 := s1.dr hD
    cases d with
    | bx i k =>
      refine iteT ⟨_, rfl, _, rfl, _, rfl, _, rfl, _, rfl, by show 1 ≤ sizeLine; decide, fun p1 hp1 => ⟨by show 2 ≤ sizeLine; decide, fun p2 hp2 => ⟨_, rfl, by show 1 ≤ sizeLine; decide, fun p3 hp3 => ⟨by show 2 ≤ sizeLine; decide, fun p4 hp4 => ⟨by show 5 ≤ sizeLine; decide, fun lo hlo => ?_⟩⟩⟩⟩⟩
      have s2 := same_new (o := .tup [V.ref a0]) hp1
      have s3 := same_new (o := .tup [.str ("behind" : Str), .ref p1]) hp2
      have s4 := same_new (o := .tup [V.ref a0]) hp3
      have s5 := same_new (o := .tup [.str ("beside" : Str), .ref p3]) hp4
      have s6 := same_new (o := .lst [V.ref a0, .ref a0, .ref a0, .ref p2, .ref p4]) hlo
      have s46 := s4.trans (s5.trans s6)
      have s26 := s2.trans (s3.trans s46)
      have f2 : Dr K _ (.br true [.bx i k]) (.ref p2) := s46.dr (dr_br (K := K) (SqT.of upd_same) (s3.tup (SqT.of upd_same)) (Drs.one ((s2.trans s3).dr hD1)))
      have f4 : Dr K _ (.br false [.bx i k]) (.ref p4) := s6.dr (dr_br (K := K) (SqT.of upd_same) (s5.tup (SqT.of upd_same)) (Drs.one ((s2.trans (s3.trans (s4.trans s5))).dr hD1)))
      have d6 := d1.same s26
      have hln := (d1.same (s2.trans (s3.trans (s4.trans s5)))).none hlo
      obtain ⟨n1, n2, n3⟩ := hk.ne hln
      refine ⟨t, lo, _, rfl, d6.2.2, upd_same, by simp, by show 5 ≤ 1000; decide, n1, n2, fun u H7 hu d7 => ?_⟩
      have : u = .ref a0 ∨ u = .ref p2 ∨ u = .ref p4 := by
        simp only [List.mem_cons, List.not_mem_nil, or_false] at hu
        rcases hu with h | h | h | h | h
        · exact .inl h
        · exact .inl h
        · exact .inl h
        · exact .inr (.inl h)
        · exact .inr (.inr h)
      rcases this with rfl | rfl | rfl
      · exact q _ (.bx i k) _ (d6.trans d7) (d7.dr (s26.dr hD1)) .refl
      · exact q _ _ _ (d6.trans d7) (d7.dr f2) (BR.refl.wrap true (by simp only [sz]; omega) (by simp only [dep]; omega))
      · exact q _ _ _ (d6.trans d7) (d7.dr f4) (BR.refl.wrap false (by simp only [sz]; omega) (by simp only [dep]; omega))
    | br b ps =>
      simp only [Dr] at hD1
      obtain ⟨a, p, vs, ea, h1, h2, h3⟩ := hD1
      cases ea
      have hlen := h3.len
      have hls := len_szs ps
      obtain ⟨hSq, hl16, hr16, hne0⟩ := Sq_of hT
      simp only [sz] at hz
      simp only [dep] at hn h10
      refine iteF ⟨_, rfl, _, _, _, _, rfl, rfl, h1, rfl, _, rfl, _, _, _, _, rfl, rfl, h1, rfl, _, rfl, ⟨_, h2⟩, fun o ho => ?_⟩
      have hon := s1.none ho
      obtain ⟨m1, m2, m3⟩ := hk.ne hon
      refine lc_tup (xs := vs) (fun i H' => DS t H1 H' ∧ ∃ ss qs, H' o = some (.lst ss) ∧ Drs K H' qs ss ∧ BRs (ps.take i) qs) ⟨DS.of d1.2.2 (same_new ho), [], [], upd_same, .nil, by simp [BRs]⟩ (fun i H' hi hP => hP.1.2.1.tup h2) (fun i x H' ex hP => ?_) (fun H' hP => ?_)
      · obtain ⟨e, ss, qs, eo, hq, hbr⟩ := hP
        obtain ⟨d', ed, hd'⟩ := h3.get ex
        obtain ⟨l', r', hT'⟩ := kids hT i d' ed
        have k1 := dep_kid ed
        have k2 := sz_kid ed
        have k3 := hq.len
        have k4 := hbr.all.1
        rw [List.length_take] at k4
        have k5 := (List.getElem?_eq_some_iff.mp ed).1
        refine ⟨rfl, tyes ⟨_, rfl, _, rfl, t, x, d', l', r', rfl, e.2.2, e.dr hd', hT', by omega, by omega, by omega, fun v2 d2 H2 e2 hv2 hb2 => ?_⟩⟩
        have eo2 := e2.keep eo m1 m2
        refine ⟨ss, eo2, lt_size (by omega), (e.trans e2).mut d1.2.2 ho, _, qs ++ [d2], upd_same, ?_, ?_⟩
        · have kk := kp_lst (o := .lst (ss ++ [v2])) eo2
          exact (kk.drs (e2.drs hq)).app (Drs.one (kk.dr hv2))
        · rw [List.take_add_one, ed]
          refine hbr.app ?_
          simp only [Option.toList, BRs]
          exact ⟨d2, [], rfl, hb2, rfl⟩
      · obtain ⟨e, ss, qs, eo, hq, hbr⟩ := hP
        rw [List.take_of_length_le (by omega)] at hbr
        have hql := hq.len
        obtain ⟨b1, b2, b3, b4, _, _⟩ := hbr.all
        have bsq := hbr.sq hSq
        have d2 := d1.trans e
        refine ⟨_, _, rfl, ?_⟩
        refine ⟨_, rfl, t, 4, rfl, by omega, by omega, d2.2.2, fun tn H2 htn d3 => ?_⟩
        have eo2 := d3.keep eo m1 m2
        refine ⟨_, rfl, _, rfl, _, _, rfl, .inl (SqL.of eo2), _, _, rfl, rfl, t, ss.length + 1, vint2 (by omega), by omega, by omega, d3.2.2, fun at_ H3 hat d4 => ?_⟩
        have eo3 := d4.keep eo2 m1 m2
        refine ⟨Nat.zero_le _, fun pe hpe => ⟨by show 2 ≤ sizeLine; decide, fun te hte => ?_⟩⟩
        have s5 : Same H3 (upd H3 pe (.tup [])) := same_new hpe
        have s6 : Same _ (upd (upd H3 pe (.tup [])) te (.tup [.str ("beside" : Str), .ref pe])) := same_new hte
        have fE : Dr K (upd (upd H3 pe (.tup [])) te (.tup [.str ("beside" : Str), .ref pe])) E0D (.ref te) := dr_empty (SqT.of upd_same) (s6.tup (SqT.of upd_same))
        have s56 := s5.trans s6
        generalize upd (upd H3 pe (.tup [])) te (.tup [.str ("beside" : Str), .ref pe]) = H4 at s56 fE
        have d5 := ((d2.trans d3).trans d4).same s56
        have eo4 := s56 _ _ eo3
        have hq4 := s56.drs (d4.drs (d3.drs hq))
        refine ⟨_, _, _, rfl, ?_⟩
        dsimp only [tSeq]
        have hqB := Sq_bxa bsq
        have hqne : b = true → qs ≠ [] := fun z y => hne0 z (by
          subst y
          exact List.length_eq_zero_iff.mp b1.symm)
        have hTq := Sq_tp bsq hl16 hr16 hqne
        refine te_by (te := tIf _ _ _) (fun x H5 => ∃ e : Nat, x = .int (e : Int) ∧ DS t H4 H5 ∧ Same H4 H5 ∧ (e = 0 → b = true → Ch (qs.take at_) l 0 ∧ Ch (qs.drop at_) 0 r)) (fun R' kk => ?_) (fun x H5 hx => ?_)
        · refine ⟨_, rfl, rfl, _, rfl, ?_⟩
          rw [show decide (V.str (kw b) = V.str "beside") = !b from kw_eq b]
          cases b with
          | false => exact iteT (kk _ _ ⟨0, rfl, DS.refl d5.2.2, Same.refl _, fun _ z => by cases z⟩)
          | true =>
            have hpos : 0 < qs.length := List.length_pos_iff.mpr (hqne rfl)
            refine iteF ⟨_, rfl, _, _, rfl, rfl, _, rfl, ?_⟩
            by_cases c : 0 < at_
            · rw [decide_eq_true (by omega : (0 : Int) < (at_ : Int))]
              have g : qs[at_ - 1]? = some (qs[at_ - 1]'(by omega)) := List.getElem?_eq_getElem (by omega)
              obtain ⟨v', ev', hd'⟩ := hq4.at g
              obtain ⟨l', r', hT'⟩ := kids hTq _ _ g
              have k1 := dep_kid g
              have k2 := sz_kid g
              refine iteT ⟨_, rfl, _, rfl, _, _, rfl, rfl, _, _, _, _, rfl, rfl, SqL.of eo4, at_of (j := at_ - 1) (by omega) ev', v', _, l', r', rfl, hd', hT', by omega, by omega, fun os H6 s6 hos eos => ?_⟩
              refine ⟨_, _, _, _, rfl, rfl, SqL.of eos, rfl, ?_⟩
              refine kk _ _ ⟨r', rfl, DS.of d5.2.2 s6, s6, fun z _ => ?_⟩
              subst z
              exact Ch_at bsq (by omega) (hqne rfl) ⟨fun _ dd hdd => by rw [g] at hdd; cases hdd; rw [Tp_en hT'], fun z => absurd z (by omega)⟩
            · rw [decide_eq_false (by omega : ¬ (0 : Int) < (at_ : Int))]
              have z0 : at_ = 0 := by omega
              have g : qs[0]? = some qs[0] := List.getElem?_eq_getElem hpos
              obtain ⟨v', ev', hd'⟩ := hq4.at g
              obtain ⟨l', r', hT'⟩ := kids hTq _ _ g
              have k1 := dep_kid g
              have k2 := sz_kid g
              refine iteF ⟨_, rfl, _, _, _, _, rfl, rfl, SqL.of eo4, at_of (j := 0) rfl ev', v', _, l', r', rfl, hd', hT', by omega, by omega, fun os H6 s6 hos eos => ?_⟩
              refine ⟨_, _, _, _, rfl, rfl, SqL.of eos, rfl, ?_⟩
              refine kk _ _ ⟨l', rfl, DS.of d5.2.2 s6, s6, fun z _ => ?_⟩
              subst z
              exact Ch_at bsq (by omega) (hqne rfl) ⟨fun z => absurd z (by omega), fun _ dd hdd => by rw [g] at hdd; cases hdd; rw [Tp_en hT']⟩
        obtain ⟨eg, rfl, d6, s6, hedge⟩ := hx
        have d06 := d5.trans d6
        have eo5 := s6 _ _ eo4
        have hq5 := s6.drs hq4
        have fE5 := s6.dr fE
        dsimp only [gName]
        refine ts_by (ts := tIfS _ _ _) (fun σ' H' => ∃ (xs2 : List V) (ps2 : List D) (y7 y8 y9 y10 : Option V), σ' = [some (.ref t.dk), some (.ref a0), some (.str (kw b)), some (.ref o), some (.int (tn : Int)), some (.int (at_ : Int)), some (.ref te), y7, y8, y9, y10] ∧ DS t H H' ∧ H' o = some (.lst xs2) ∧ Drs K H' ps2 xs2 ∧
          fls b ps2 = fls b ps ∧ Sq b ps2 l r ∧ szs ps2 ≤ 5 * szs ps + 2 ∧ deps ps2 ≤ 2 * deps ps + 2 ∧ (b = true → ps2 ≠ [])) (fun N kk => ?_) (fun σ' H' hS => ?_)
        · have same : ∀ H', Same H5 H' ∨ DS t H5 H' → N [some (.ref t.dk), some (.ref a0), some (.str (kw b)), some (.ref o), some (.int (tn : Int)), some (.int (at_ : Int)), some (.ref te), some (.int (eg : Int)), none, none, none] H' := by
            intro H' h
            have h : DS t H5 H' := h.elim (DS.of d06.2.2) id
            exact kk _ _ ⟨ss, qs, _, _, _, _, rfl, d06.trans h, h.keep eo5 m1 m2, h.drs hq5, b4 b, bsq, by omega, by omega, hqne⟩
          refine ⟨_, rfl, rfl, _, rfl, ?_⟩
          by_cases ce : eg = 0
          · rw [decide_eq_true (by rw [ce]; rfl)]
            refine iteT ⟨_, rfl, t, 2, rfl, by omega, by omega, d06.2.2, fun j H6 hj d7 => ⟨rfl, _, rfl, ?_⟩⟩
            by_cases cj : j = 0
            · rw [decide_eq_true (by rw [cj]; rfl)]
              have eo6 := d7.keep eo5 m1 m2
              refine iteT ⟨_, rfl, .inl ⟨rfl, _, SqL.of eo6⟩, _, rfl, _, rfl, _, rfl, _, rfl, _, rfl, by show 1 ≤ sizeLine; decide, fun p5 hp5 => ⟨by show 2 ≤ sizeLine; decide, fun p6 hp6 => ⟨by show 3 ≤ sizeLine; decide, fun lo hlo => ?_⟩⟩⟩
              have s7 := same_new (o := .tup [V.ref te]) hp5
              have s8 := same_new (o := .tup [.str ("behind" : Str), .ref p5]) hp6
              have s9 := same_new (o := .lst [V.ref te, .ref te, .ref p6]) hlo
              have s79 := s7.trans (s8.trans s9)
              have fE6 := d7.dr fE5
              have g6 : Dr K _ (.br true [E0D]) (.ref p6) := s9.dr (dr_br (K := K) (SqT.of upd_same) (s8.tup (SqT.of upd_same)) (Drs.one ((s7.trans s8).dr fE6)))
              have d8 := (d06.trans d7).same s79
              have hln := ((d06.trans d7).same (s7.trans s8)).none hlo
              obtain ⟨n1, n2, n3⟩ := hk.ne hln
              refine ⟨t, lo, _, rfl, d8.2.2, upd_same, by simp, by show 3 ≤ 1000; decide, n1, n2, fun u H9 hu d9 => ?_⟩
              have hu : ∃ z, Dr K H9 z u ∧ flat z = E0D ∧ Tp z 0 0 ∧ sz z ≤ 2 ∧ dep z ≤ 1 := by
                have : u = .ref te ∨ u = .ref p6 := by
                  simp only [List.mem_cons, List.not_mem_nil, or_false] at hu
                  rcases hu with h | h | h
                  · exact .inl h
                  · exact .inl h
                  · exact .inr h
                rcases this with rfl | rfl
                · exact ⟨E0D, d9.dr (s79.dr fE6), rfl, Tp_E0, by decide, by decide⟩
                · exact ⟨.br true [E0D], d9.dr g6, rfl, Tp_t1 Tp_E0, by decide, by decide⟩
              obtain ⟨z, hz1, hz2, hz3, hz4, hz5⟩ := hu
              have eo9 := d9.keep (s79 _ _ eo6) m1 m2
              have hq9 := d9.drs (s79.drs (d7.drs hq5))
              refine ⟨o, ss, (at_ : Int), u, rfl, rfl, eo9, lt_size (by omega), by omega, by omega, ?_⟩
              have kk9 := kp_lst (o := .lst (ss.take ((at_ : Int)).toNat ++ [u] ++ ss.drop ((at_ : Int)).toNat)) eo9
              obtain ⟨w1, w2⟩ := (kk9.drs hq9).take at_
              have z1 := szs_split qs at_
              have z2 := deps_split qs at_
              have e1 : qs.take at_ ++ qs.drop at_ = qs := List.take_append_drop _ _
              refine kk _ _ ⟨_, qs.take at_ ++ [z] ++ qs.drop at_, _, _, _, _, rfl, (d8.trans d9).mut hk hon, upd_same, (w1.app (Drs.one (kk9.dr hz1))).app w2, ?_, ?_, ?_, ?_, fun _ => by simp⟩
              · rw [fls_ins b _ _ hz2, e1]
                exact b4 b
              · exact Sq_ins (by rw [e1]; exact bsq) hz3 fun z => hedge ce z
              · rw [szs_app, szs_app]
                simp only [szs]
                omega
              · rw [deps_app, deps_app]
                simp only [deps]
                omega
            · rw [decide_eq_false (by simp only [V.int.injEq]; omega)]
              exact iteF (same _ (.inr d7))
          · rw [decide_eq_false (by simp only [V.int.injEq]; omega)]
            exact iteF (same _ (.inl (Same.refl _)))
        obtain ⟨xs2, ps2, y7, y8, y9, y10, rfl, d7, eo7, hq7, hf7, hs7, hz7, hd7, hn7⟩ := hS
        have hl7 := hq7.len
        have hls7 := len_szs ps2
        have hB7 := Sq_bxa hs7
        dsimp only
        refine ts_by (ts := tIfS _ _ _) (fun σ' H' => ∃ (o3 : Addr) (xs3 : List V) (ps3 : List D) (y5 y7 y8 y9 y10 : Option V), σ' = [some (.ref t.dk), some (.ref a0), some (.str (kw b)), some (.ref o3), some (.int (tn : Int)), y5, some (.ref te), y7, y8, y9, y10] ∧ DS t H H' ∧ H' o3 = some (.lst xs3) ∧ Drs K H' ps3 xs3 ∧
          fls b ps3 = fls b ps ∧ Sq b ps3 l r ∧ szs ps3 ≤ 5 * szs ps + 3 ∧ deps ps3 ≤ 2 * deps ps + 3 ∧ (tn = 2 → szs ps3 ≤ 5 * szs ps + 2 ∧ deps ps3 ≤ 2 * deps ps + 2) ∧ (b = true → ps3 ≠ [])) (fun N kk => ?_) (fun σ' H' hS => ?_)
        · refine ⟨_, rfl, rfl, _, rfl, ?_⟩
          by_cases c1 : tn = 1
          · rw [decide_eq_true (by rw [c1]; rfl)]
            refine iteT ⟨_, rfl, Nat.zero_le _, fun lz hlz => ?_⟩
            have s8 : Same H' (upd H' lz (.lst [])) := same_new hlz
            have e8 : upd H' lz (.lst []) lz = some (.lst []) := upd_same
            generalize upd H' lz (.lst []) = H8 at s8 e8
            have d8 := d7.same s8
            have eo8 := s8 _ _ eo7
            have hq8 := s8.drs hq7
            refine ⟨.list (pds ps2), .list [], dps_list hq8 eo8, .lst (SqL.of e8) .nil, sh_list hB7 (by omega), by decide, _, rfl, ?_⟩
            rw [eqv_nil]
            by_cases cn : ps2 = []
            · rw [show (!ps2.isEmpty) = false by rw [cn]; rfl]
              exact iteF (kk _ _ ⟨o, xs2, ps2, _, _, _, _, _, rfl, d8, eo8, hq8, hf7, hs7, by omega, by omega, fun z => by omega, hn7⟩)
            · rw [show (!ps2.isEmpty) = true by cases ps2 with | nil => exact absurd rfl cn | cons a b => rfl]
              have hpos : 0 < ps2.length := List.length_pos_iff.mpr cn
              refine iteT ⟨_, rfl, _, rfl, _, _, rfl, .inl (SqL.of eo8), t, xs2.length, rfl, by omega, by omega, d8.2.2, fun at2 H9 hat2 d9 => ?_⟩
              have eo9 := d9.keep eo8 m1 m2
              refine ⟨_, rfl, _, _, rfl, rfl, _, rfl, _, rfl, _, _, rfl, .inl (SqL.of eo9), _, rfl, _, _, rfl, rfl, t, xs2.length - at2, vint2 (by omega), by omega, by omega, d9.2.2, fun tq H10 htq d10 => ?_⟩
              refine ⟨_, _, rfl, rfl, ?_⟩
              have eo10 := d10.keep eo9 m1 m2
              have d010 := (d8.trans d9).trans d10
              have hq10 := d10.drs (d9.drs hq8)
              have eto : ((at2 : Int) + 1 + (tq : Int)) = ((at2 + 1 + tq : Nat) : Int) := by omega
              refine ⟨_, rfl, _, rfl, _, rfl, _, _, rfl, SqL.of eo10, fun c1' hc1 => ?_⟩
              have s11 : Same H10 (upd H10 c1' (.lst (cutV xs2 none (some (at2 : Int))))) := same_new hc1
              have f11 : upd H10 c1' (.lst (cutV xs2 none (some (at2 : Int)))) c1' = some (.lst (xs2.take at2)) := by rw [upd_same, cut_to (by omega)]
              generalize upd H10 c1' (.lst (cutV xs2 none (some (at2 : Int)))) = H11 at s11 f11
              refine ⟨_, rfl, _, rfl, _, rfl, _, rfl, _, rfl, _, rfl, _, _, rfl, SqL.of (s11 _ _ eo10), fun c2 hc2 => ?_⟩
              have ecm : cutV xs2 (some (at2 : Int)) (some ((at2 : Int) + 1 + (tq : Int))) = (xs2.drop at2).take (tq + 1) := by
                rw [eto, cut_mid (by omega) (by omega)]
                rw [show at2 + 1 + tq - at2 = tq + 1 by omega]
              have s12 : Same H11 (upd H11 c2 (.lst (cutV xs2 (some (at2 : Int)) (some ((at2 : Int) + 1 + (tq : Int)))))) := same_new hc2
              have f12 : upd H11 c2 (.lst (cutV xs2 (some (at2 : Int)) (some ((at2 : Int) + 1 + (tq : Int))))) c2 = some (.lst ((xs2.drop at2).take (tq + 1))) := by rw [upd_same, ecm]
              refine ⟨_, _, rfl, .inl ⟨SqL.of f12, fun c3 hc3 => ⟨by show 2 ≤ sizeLine; decide, fun c4 hc4 => ⟨by show 1 ≤ sizeLine; decide, fun c5 hc5 => ?_⟩⟩⟩⟩
              have s13 := same_new (o := .tup ((xs2.drop at2).take (tq + 1))) hc3
              have s14 := same_new (o := .tup [.str (kw b), .ref c3]) hc4
              have s15 := same_new (o := .lst [V.ref c4]) hc5
              have s1215 := s12.trans (s13.trans (s14.trans s15))
              obtain ⟨w1, w2⟩ := hq10.take at2
              obtain ⟨w3, w4⟩ := w2.take (tq + 1)
              have g4 : Dr K _ (.br b ((ps2.drop at2).take (tq + 1))) (.ref c4) := s15.dr (dr_br (K := K) (SqT.of upd_same) (s14.tup (SqT.of upd_same)) ((s11.trans (s12.trans (s13.trans s14))).drs w3))
              have f15 := upd_same (H := upd (upd (upd H11 c2 (.lst (cutV xs2 (some (at2 : Int)) (some ((at2 : Int) + 1 + (tq : Int)))))) c3 (.tup ((xs2.drop at2).take (tq + 1)))) c4 (.tup [.str (kw b), .ref c3])) (a := c5) (o := .lst [V.ref c4])
              generalize upd (upd (upd (upd H11 c2 (.lst (cutV xs2 (some (at2 : Int)) (some ((at2 : Int) + 1 + (tq : Int)))))) c3 (.tup ((xs2.drop at2).take (tq + 1)))) c4 (.tup [.str (kw b), .ref c3])) c5 (.lst [V.ref c4]) = H15 at s1215 g4 f15 ⊢
              have f11' := s1215 _ _ f11
              refine ⟨c1', c5, _, _, rfl, rfl, f11', f15, le_size (by simp; omega), fun c6 hc6 => ?_⟩
              have s16 := same_new (o := .lst (xs2.take at2 ++ [V.ref c4])) hc6
              have f16 := upd_same (H := H15) (a := c6) (o := .lst (xs2.take at2 ++ [V.ref c4]))
              generalize upd H15 c6 (.lst (xs2.take at2 ++ [V.ref c4])) = H16 at s16 f16 ⊢
              have s1116 := s11.trans (s1215.trans s16)
              refine ⟨_, rfl, _, rfl, _, rfl, ?_⟩
              simp only [tNoPart]
              refine ⟨_, _, rfl, SqL.of (s1116 _ _ eo10), fun c7 hc7 => ?_⟩
              have ecd : cutV xs2 (some ((at2 : Int) + 1 + (tq : Int))) none = xs2.drop (at2 + 1 + tq) := by rw [eto, cut_from (by omega)]
              have s17 : Same H16 (upd H16 c7 (.lst (cutV xs2 (some ((at2 : Int) + 1 + (tq : Int))) none))) := same_new hc7
              have f17 : upd H16 c7 (.lst (cutV xs2 (some ((at2 : Int) + 1 + (tq : Int))) none)) c7 = some (.lst (xs2.drop (at2 + 1 + tq))) := by rw [upd_same, ecd]
              generalize upd H16 c7 (.lst (cutV xs2 (some ((at2 : Int) + 1 + (tq : Int))) none)) = H17 at s17 f17 ⊢
              refine ⟨c6, c7, _, _, rfl, rfl, s17 _ _ f16, f17, le_size (by simp; omega), fun c8 hc8 => ?_⟩
              have s18 := same_new (o := .lst (xs2.take at2 ++ [V.ref c4] ++ xs2.drop (at2 + 1 + tq))) hc8
              have em : ps2 = ps2.take at2 ++ (ps2.drop at2).take (tq + 1) ++ ps2.drop (at2 + 1 + tq) := by
                have e1 : (ps2.drop at2).take (tq + 1) ++ (ps2.drop at2).drop (tq + 1) = ps2.drop at2 := List.take_append_drop _ _
                rw [List.drop_drop, show at2 + (tq + 1) = at2 + 1 + tq by omega] at e1
                rw [List.append_assoc, e1, List.take_append_drop]
              have hml : ((ps2.drop at2).take (tq + 1)).length = tq + 1 := by
                rw [List.length_take, List.length_drop]
                omega
              have hmne : (ps2.drop at2).take (tq + 1) ≠ [] := fun z => by
                rw [z] at hml
                simp at hml
              have q3 : Drs K H10 (ps2.drop (at2 + 1 + tq)) (xs2.drop (at2 + 1 + tq)) := (hq10.take (at2 + 1 + tq)).2
              have sAll := s1116.trans (s17.trans s18)
              have sz1 : szs (ps2.take at2) + szs ((ps2.drop at2).take (tq + 1)) + szs (ps2.drop (at2 + 1 + tq)) = szs ps2 := by
                conv => rhs; rw [em]
                rw [szs_app, szs_app]
              have dp1 : max (max (deps (ps2.take at2)) (deps ((ps2.drop at2).take (tq + 1)))) (deps (ps2.drop (at2 + 1 + tq))) = deps ps2 := by
                conv => rhs; rw [em]
                rw [deps_app, deps_app]
              have fl1 : fls b (ps2.take at2 ++ [.br b ((ps2.drop at2).take (tq + 1))] ++ ps2.drop (at2 + 1 + tq)) = fls b ps2 := by
                rw [fls_grp, ← em]
              have sq1 : Sq b (ps2.take at2 ++ [.br b ((ps2.drop at2).take (tq + 1))] ++ ps2.drop (at2 + 1 + tq)) l r := by
                refine Sq_grp ?_ hl16 hr16 hmne
                rw [← em]
                exact hs7
              refine kk _ _ ⟨c8, _, ps2.take at2 ++ [.br b ((ps2.drop at2).take (tq + 1))] ++ ps2.drop (at2 + 1 + tq), _, _, _, _, _, rfl, d010.same sAll, upd_same, ((sAll.drs w1).app (Drs.one ((s16.trans (s17.trans s18)).dr g4))).app (sAll.drs q3), by rw [fl1, hf7], sq1, ?_, ?_, fun z => by omega, fun _ => by simp⟩
              · rw [szs_app, szs_app]
                simp only [szs, sz]
                omega
              · rw [deps_app, deps_app]
                simp only [deps, dep]
                omega
          · rw [decide_eq_false (by simp only [V.int.injEq]; omega)]
            exact iteF (kk _ _ ⟨o, xs2, ps2, _, _, _, _, _, rfl, d7, eo7, hq7, hf7, hs7, by omega, by omega, fun z => by omega, hn7⟩)
        obtain ⟨o3, xs3, ps3, y5, y7, y8, y9, y10, rfl, d8, eo8, hq8, hf8, hs8, hz8, hd8, hz8', hn8⟩ := hS
        have hTe := Sq_tp hs8 hl16 hr16 hn8
        have hBR : BR (.br b ps) (.br b ps3) := by
          refine ⟨by simp only [flat, hf8], fun l' r' h => ?_, by simp only [sz]; omega, by simp only [dep]; omega⟩
          have e1 := Tp_en hT
          have e2 := Tp_en h
          rw [e1] at e2
          cases e2
          exact hTe
        refine ⟨_, rfl, _, rfl, _, _, rfl, .inl ⟨SqL.of eo8, fun p8 hp8 => ⟨by show 2 ≤ sizeLine; decide, fun p9 hp9 => ?_⟩⟩⟩
        have s9 := same_new (o := .tup xs3) hp8
        have s10 := same_new (o := .tup [.str (kw b), .ref p8]) hp9
        have g9 : Dr K _ (.br b ps3) (.ref p9) := dr_br (K := K) (SqT.of upd_same) (s10.tup (SqT.of upd_same)) ((s9.trans s10).drs hq8)
        have d10 := (d8.same s9).same s10
        refine ⟨_, rfl, rfl, _, rfl, ?_⟩
        by_cases c2 : tn = 2
        · rw [decide_eq_true (by rw [c2]; rfl)]
          obtain ⟨z1, z2⟩ := hz8' c2
          refine iteT ⟨_, rfl, by show 2 ≤ sizeLine; decide, fun lw hlw => ?_⟩
          have s11 := same_new (o := .lst [V.str ("behind" : Str), .str ("beside" : Str)]) hlw
          have hln := d10.none hlw
          obtain ⟨n1, n2, n3⟩ := hk.ne hln
          have d11 := d10.same s11
          refine ⟨t, lw, _, rfl, d11.2.2, upd_same, by simp, by show 2 ≤ 1000; decide, n1, n2, fun u H12 hu d12 => ?_⟩
          have hu : ∃ c : Bool, u = .str (kw c) := by
            have : u = .str ("behind" : Str) ∨ u = .str ("beside" : Str) := by simpa using hu
            rcases this with rfl | rfl
            · exact ⟨true, rfl⟩
            · exact ⟨false, rfl⟩
          obtain ⟨c, rfl⟩ := hu
          refine ⟨_, rfl, by show 1 ≤ sizeLine; decide, fun p10 hp10 => ⟨by show 2 ≤ sizeLine; decide, fun p11 hp11 => ?_⟩⟩
          have s13 := same_new (o := .tup [V.ref p9]) hp10
          have s14 := same_new (o := .tup [.str (kw c), .ref p10]) hp11
          refine q _ (.br c [.br b ps3]) _ (((d11.trans d12).same s13).same s14) (dr_br (SqT.of upd_same) (s14.tup (SqT.of upd_same)) (Drs.one ((s13.trans s14).dr (d12.dr (s11.dr g9))))) (hBR.wrap c (by simp only [sz]; omega) (by simp only [dep]; omega))
        · rw [decide_eq_false (by simp only [V.int.injEq]; omega)]
          exact iteF ⟨_, rfl, q _ _ _ d10 g9 hBR⟩
end K9

set_option maxHeartbeats 4000000
namespace K9
open PySem PySem.Spec L2 PyProof.Rows
/-! ### a def asked where no repr runs around -/
section
variable {P : Program} {w : World} {K : PySem.W.Frag} {mg : Str → Option Value} {base : Heap}
theorem okG8 {x qual : Str} {st : Stmt} {f : Addr} {fd : FuncData} {N ps : List Str} {k : Nat} {sp : Sp} (F : C8.Fun K x qual st f fd)
    (S : FnScope N ps (C8.fnScope st)) (len : ∀ vs H Q E, sp vs H Q E → vs.length = ps.length)
    (hbody : ∀ (cdv : Value) (A : Around) (outer : List Env) (s : Shared) (H : Hp) (vs : List V) (Q : VK) (E : XK), Room k (A.deeper (envOfC qual (C8.fnScope st) s.heap.objs.size f cdv)) → A.guards = some [] → sp vs H Q E →
      ∃ t, PSs (cxOf CX0 P w K mg base N qual (C8.fnScope st) f cdv A outer s H E).nox (C8.fnBody st) t ∧ t { nx := fun _ H' => Q .non H', rt := Q } (start N vs) H) : FnG P w K mg base (k + 1) f fd ps sp := by
  obtain ⟨oc, od, dV, kV, doc, pm, an, cdv, ct, osl, rfl, lk, hcd⟩ := F.ex
  refine ⟨len, fun A outer s H args us vs Q E hr hgu e0 hb r hsp => ?_⟩
  have hl := len _ _ _ _ hsp
  have kept : ∀ b o, base.get? b = some o → s.heap.get? b = some o := fun b o e => (e0.bs b o e).1
  have KX : K.In s.heap := e0.mod.kin.keeps kept
  have lim : s.heap.NoLimit := e0.mod.nolimit.keeps kept
  have hkind : ∀ y ∈ ps.zip us, (C8.fnScope st).names.lookup y.1 = some .local ∨ ((C8.fnScope st).names.lookup y.1 = some .cell ∧ ((cellsFrom (s.heap.objs.size + 1) (C8.fnScope st).names []).lookup y.1).isSome = true) := by
    rintro ⟨n, v⟩ hy
    exact (S.par n (List.of_mem_zip hy).1).elim Or.inl fun q => Or.inr ⟨q, PySem.W.cellsFrom_some _ _ _ (Or.inl q)⟩
  refine codeAny_call_function hr.depth (KX _ _ lk) rfl S.co S.gen rfl (PySem.W.codeRec_of KX hcd) (hb _ _ _ _ (wpAny_newFunctionEnv_cells S.kind hkind fun env he s1 x => ?_))
  subst he
  obtain ⟨t, ht, hq⟩ := hbody cdv A outer s H vs Q E (hr.deeper _) hgu hsp
  have I := inv_start (CX := CX0) (E := E) S hr.hd e0 hl r x
  refine ⟨lim.keeps x.toInCall.keep, codeAny_func (wpAny_mono (ht.nox.run [] s1 (start N vs) H _ I hq) (fun fl s' hs => ?_) fun e s' hs => hs)⟩
  cases fl with
  | ret u =>
    obtain ⟨v, σ', H', J, rv, q⟩ := hs
    exact ⟨v, H', J.os, J.bare, J.base, J.hok, rv, q⟩
  | next =>
    obtain ⟨σ', H', J, q⟩ := hs
    exact ⟨V.non, H', J.os, J.bare, J.base, J.hok, rfl, q⟩
  | brk =>
    obtain ⟨_, _, _, q⟩ := hs
    exact q.elim
  | cont =>
    obtain ⟨_, _, _, q⟩ := hs
    exact q.elim
theorem D0.okG {x : Str} {st : Stmt} {N ps : List Str} {k : Nat} {sp : Sp} (F : D0 K mg x st ps) (S : FnScope N ps (C8.fnScope st)) (len : ∀ vs H Q E, sp vs H Q E → vs.length = ps.length)
    (hbody : ∀ (f : Addr) (cdv : Value) (A : Around) (outer : List Env) (s : Shared) (H : Hp) (vs : List V) (Q : VK) (E : XK), Room k (A.deeper (envOfC x (C8.fnScope st) s.heap.objs.size f cdv)) → A.guards = some [] → sp vs H Q E →
      ∃ t, PSs (cxOf CX0 P w K mg base N x (C8.fnScope st) f cdv A outer s H E).nox (C8.fnBody st) t ∧ t { nx := fun _ H' => Q .non H', rt := Q } (start N vs) H) : CalG P w K mg base (k + 1) x sp := by
  obtain ⟨f, fd, F, b⟩ := F.ex
  exact ⟨⟨f, fd, ps, okG8 F.fn S len (hbody f), F.mgf, F.kp, b⟩⟩
end
/-! ### what repr may be asked of -/
structure Shw (d : PyData) : Prop where
  a : d.showable = true
  b : d.hasDict = false
  c : d.depth ≤ 59
  e : d.shown.length ≤ 4000000
theorem Shw.c' {d : PyData} (s : Shw d) : d.depth ≤ 60 := Nat.le_trans s.c (by decide)
theorem Shw.e' {d : PyData} (s : Shw d) : d.shown.length ≤ sizeLine := Nat.le_trans s.e (by decide)
theorem rep_ok {K : PySem.W.Frag} {A : Around} {H : Hp} {v : V} {d : PyData} {Q : VK} (h : Dp K H v d) (s : Shw d) (q : Q (.str d.shown) H) : rRepr K A [v] H Q :=
  ⟨v, d, rfl, h, s.a, s.b, Nat.le_trans s.c (by decide), Nat.le_trans s.e (by decide), q⟩
theorem shw_pd {d : D} (h : BxA d) (hd : dep d ≤ 28) (hz : sz d ≤ 5000) : Shw (pd d) := by
  obtain ⟨_, h2, h3, h4⟩ := lay_pd h
  have := shown_len h
  exact ⟨h3, h4, by omega, by omega⟩
theorem shw_txt {l : List Nat} (h : ∀ c ∈ l, c < 128) (hl : l.length ≤ 70000) : Shw (.str (S l)) := by
  refine ⟨by simp [PyData.showable], by simp [PyData.hasDict], by simp [PyData.depth], ?_⟩
  have := StrLaws.reprText_len (S l) (fun c hc => by
    have := h c (by simpa [S] using hc)
    omega)
  rw [S_len] at this
  simp only [PyData.shown]
  omega
theorem textFrom_le : ∀ (ts : List Str) (k : Nat) (acc : Str) (M : Nat), (∀ t ∈ ts, t.length ≤ M) → (textFrom k acc ts).length ≤ acc.length + ts.length * (M + 2)
  | [], k, acc, M, h => by simp [textFrom]
  | t :: ts, k, acc, M, h => by
    have ih := textFrom_le ts (k + 1) (acc ++ (if k > 0 then ", " else "" : String) ++ t) M fun x hx => h x (by simp [hx])
    have e : (acc ++ ((if k > 0 then ", " else "" : String) : Str) ++ t).length = acc.length + (if k > 0 then 2 else 0) + t.length := by
      rw [strLen_append, strLen_append]
      split <;> rfl
    have ht := h t (by simp)
    simp only [textFrom, List.length_cons]
    rw [e] at ih
    have : (if k > 0 then 2 else 0 : Nat) ≤ 2 := by split <;> omega
    rw [Nat.add_mul]
    omega
theorem shownAll_eq : ∀ ds : List PyData, PyData.shownAll ds = ds.map PyData.shown
  | [] => by simp [PyData.shownAll]
  | d :: ds => by simp [PyData.shownAll, shownAll_eq ds]
theorem shw_all : ∀ {ds : List PyData}, (∀ d ∈ ds, d.showable = true ∧ d.hasDict = false ∧ d.depth ≤ 58) → PyData.showableAll ds = true ∧ PyData.hasDictAll ds = false ∧ PyData.depthAll ds ≤ 58
  | [], _ => by simp [PyData.showableAll, PyData.hasDictAll, PyData.depthAll]
  | d :: ds, h => by
    obtain ⟨h1, h2, h3⟩ := shw_all (ds := ds) fun x hx => h x (by simp [hx])
    obtain ⟨g1, g2, g3⟩ := h d (by simp)
    refine ⟨by simp only [PyData.showableAll, g1, h1, Bool.and_self], by simp only [PyData.hasDictAll, g2, h2, Bool.or_self], ?_⟩
    simp only [PyData.depthAll]
    omega
theorem shw_list {ds : List PyData} {M : Nat} (h : ∀ d ∈ ds, d.showable = true ∧ d.hasDict = false ∧ d.depth ≤ 58 ∧ d.shown.length ≤ M) (hM : ds.length * (M + 2) + 2 ≤ 4000000) : Shw (.list ds) := by
  obtain ⟨h1, h2, h3⟩ := shw_all fun d hd => ⟨(h d hd).1, (h d hd).2.1, (h d hd).2.2.1⟩
  refine ⟨by simpa [PyData.showable] using h1, by simpa [PyData.hasDict] using h2, by simp only [PyData.depth]; omega, ?_⟩
  simp only [PyData.shown, shownAll_eq]
  unfold listText
  rw [strLen_append]
  have := textFrom_le (ds.map PyData.shown) 0 "[" M fun t ht => by
    obtain ⟨d, hd, rfl⟩ := List.mem_map.mp ht
    exact (h d hd).2.2.2
  rw [List.length_map] at this
  have e1 : ((("[" : String) : Str)).length = 1 := rfl
  have e2 : ((("]" : String) : Str)).length = 1 := rfl
  omega
theorem shw_texts {l : List Nat} (h : ∀ c ∈ l, c < 128) (hl : l.length ≤ 70000) {ds : List PyData} (hd : ∀ d ∈ ds, d = .str (S l)) (h5 : ds.length ≤ 5) : Shw (.list ds) := by
  have z := shw_txt h hl
  refine shw_list (M := 700002) (fun d hdd => ?_) (by omega)
  rw [hd d hdd]
  refine ⟨z.a, z.b, by simp [PyData.depth], ?_⟩
  have := StrLaws.reprText_len (S l) (fun c hc => by
    have := h c (by simpa [S] using hc)
    omega)
  rw [S_len] at this
  simp only [PyData.shown]
  omega
theorem shw_draws {e : D} (h : BxA e) (hd : dep e ≤ 28) (hz : sz e ≤ 5000) {ds : List PyData} (hds : ∀ d ∈ ds, d = pd e) (h5 : ds.length ≤ 5) : Shw (.list ds) := by
  obtain ⟨_, h2, h3, h4⟩ := lay_pd h
  have := shown_len h
  refine shw_list (M := 100000) (fun d hdd => ?_) (by omega)
  rw [hds d hdd]
  exact ⟨h3, h4, by omega, by omega⟩
theorem shw_bools {ds : List PyData} (h : ∀ d ∈ ds, ∃ b, d = .bool b) (h5 : ds.length ≤ 5) : Shw (.list ds) := by
  refine shw_list (M := 5) (fun d hd => ?_) (by omega)
  obtain ⟨b, rfl⟩ := h d hd
  refine ⟨by simp [PyData.showable], by simp [PyData.hasDict], by simp [PyData.depth], ?_⟩
  cases b <;> decide +kernel
/-! ### what is normal is flat -/
mutual
theorem flat_of : ∀ {d : D}, Nf d → flat d = d
  | .bx i k, _ => by simp only [flat]
  | .br b ps, h => by
    simp only [Nf] at h
    simp only [flat, fls_of h.2]
    match ps, h with
    | x :: y :: r, _ => rfl
theorem fls_of {b : Bool} : ∀ {ps : List D}, Nfs b ps → fls b ps = ps
  | [], _ => by simp only [fls]
  | d :: ps, h => by
    simp only [Nfs] at h
    obtain ⟨h1, h2, h3⟩ := h
    simp only [fls, flat_of h1, fls_of h3]
    have : addD b d = [d] := by
      cases d with
      | bx i k => rfl
      | br c qs =>
        have hc := h2 c qs rfl
        simp only [Nf] at h1
        simp only [addD, if_neg hc]
        match qs, h1 with
        | x :: y :: r, _ => rfl
    rw [this]
    rfl
end
theorem flat_flat (d : D) : flat (flat d) = flat d := by
  rcases flat_nf d with h | h
  · rw [h]
    rfl
  · exact flat_of h
end K9

set_option maxHeartbeats 4000000
namespace K9
open PySem PySem.Spec L2
/-- what is asked of a drawing that is told and read back -/
structure Ok (d : D) (l r : Nat) : Prop where
  tp : Tp d l r
  lr : l + r ≤ 8
  nb : nb d ≤ 400
  sz : sz d ≤ 5000
  dp : dep d ≤ 25
  fl : dep (flat d) ≤ 12
/-- a drawing that is told and read back -/
def spTold (K : PySem.W.Frag) : Sp := fun vs H Q _ => ∃ (v : V) (d : D) (l r : Nat), vs = [v] ∧ Dr K H d v ∧ Ok d l r ∧ ∀ H', Same H H' → Q (.bl true) H'
abbrev s_law_is_told : Stmt := top 51
abbrev N_law_is_told : List Str := ["_law_sketch", "_law_known", "_law_bare_here", "_law_due", "_law_told", "_law_back"]
theorem sc_law_is_told : FnScope N_law_is_told ["_law_sketch"] (C8.fnScope s_law_is_told) := C8.fnScope_by (by decide +kernel)
theorem ok_law_is_told {P : Program} {w : World} {K : PySem.W.Frag} {mg : Str → Option Value} {base : Heap} (T : Tp0 w K mg) (F : D0 K mg "_law_is_told" s_law_is_told ["_law_sketch"])
    (c_fl : ∀ n, C8.Cal P w K mg base (n + 2) "flattened" (spFlat K n) []) (c_ba : ∀ n, C8.Cal P w K mg base (n + 2) "_law_bare" (spFlat K n) []) (c_te : ∀ n, C8.Cal P w K mg base (n + 2) "_law_text" (spText K n) [])
    (c_drawing_text : C8.Cal P w K mg base 40 "drawing_text" (spDText K) []) (k_drawing_text : CalK P w K mg base 40 "drawing_text" "drawing" (spDText K))
    (c_parse_drawing : C8.Cal P w K mg base 40 "parse_drawing" (spParse K) []) (k_parse_drawing : CalK P w K mg base 40 "parse_drawing" "value" (spParse K))
    (c_drawing_error : C8.Cal P w K mg base 20 "drawing_error" (spDErr K) []) : CalG P w K mg base 50 "_law_is_told" (spTold K) := by
  have c_flattened := c_fl 31
  have c_law_bare := c_ba 31
  have c_law_text := c_te 31
  refine F.okG (k := 49) sc_law_is_told (fun vs H Q E h => ?_) (fun f cdv A outer s H vs Q E hr hgu h => ?_)
  · obtain ⟨_, _, _, _, rfl, _⟩ := h
    rfl
  obtain ⟨v, d, l, r, rfl, hD, ok, q⟩ := h
  refine ⟨_, (pss_cons (ps_par (i := 1) (j := 2) rfl sc_law_is_told.nd rfl rfl (by decide) rfl rfl (pa_cons (pe_callB (call_repr hgu hr.units) rfl T.repr bo_repr (pa_cons (pv 0) pa_nil)) (pa_cons (C8.pe_c c_law_bare hr (by omega) rfl (pa_cons (pv 0) pa_nil)) pa_nil)) (by rfl))
    (pss_cons (ps_set (i := 3) sc_law_is_told.nd rfl (Or.inl rfl) (C8.pe_c c_law_text hr (by omega) rfl (pa_cons (pv 2) pa_nil)))
    (pss_cons (ps_set (i := 4) sc_law_is_told.nd rfl (Or.inl rfl) (pe_lst (pa_cons (C8.pe_c c_drawing_text hr (by omega) rfl (pa_cons (pv 0) pa_nil)) (pa_cons (pe_ck0 k_drawing_text hr (by omega) rfl rfl (pk_cons (pv 0) pk_nil)) (pa_cons (C8.pe_c c_drawing_text hr (by omega) rfl (pa_cons (pv 2) pa_nil)) (pa_cons (C8.pe_c c_drawing_text hr (by omega) rfl (pa_cons (C8.pe_c c_flattened hr (by omega) rfl (pa_cons (pv 0) pa_nil)) pa_nil)) pa_nil))))))
    (pss_cons (ps_if (PW.pt (pw_or (pt_cmpR op_ne (pe_callB (call_repr hgu hr.units) rfl T.repr bo_repr (pa_cons (pv 4) pa_nil)) (pe_callB (call_repr hgu hr.units) rfl T.repr bo_repr (pa_cons (pe_op op_rep (pe_lst (pa_cons (pv 3) pa_nil)) pe_int) pa_nil)) (nomark _)) (pw_or1 (pt_cmpR op_ne (pe_callB (call_repr hgu hr.units) rfl T.repr bo_repr (pa_cons (pv 0) pa_nil)) (pv 1) (nomark _)))))
      (pss_one (ps_ret pe_bl))
      pss_nil)
    (pss_cons (ps_set (i := 5) sc_law_is_told.nd rfl (Or.inl rfl) (pe_lst (pa_cons (C8.pe_c c_parse_drawing hr (by omega) rfl (pa_cons (pv 3) pa_nil)) (pa_cons (pe_ck0 k_parse_drawing hr (by omega) rfl rfl (pk_cons (pe_ix (r := rIxL K) ix_list (pv 4) pe_int (fun _ _ => rfl)) pk_nil)) (pa_cons (C8.pe_c c_parse_drawing hr (by omega) rfl (pa_cons (pv 3) pa_nil)) pa_nil)))))
    (pss_cons (ps_if (PW.pt (pw_or (pt_cmpR op_ne (pe_callB (call_repr hgu hr.units) rfl T.repr bo_repr (pa_cons (pv 5) pa_nil)) (pe_callB (call_repr hgu hr.units) rfl T.repr bo_repr (pa_cons (pe_op op_rep (pe_lst (pa_cons (pv 2) pa_nil)) pe_int) pa_nil)) (nomark _)) (pw_or1 (pt_cmpR op_notN (C8.pe_c c_drawing_error hr (by omega) rfl (pa_cons (pe_ix (r := rIxL K) ix_list (pv 5) pe_int (fun _ _ => rfl)) pa_nil)) pe_non (nomark _)))))
      (pss_one (ps_ret pe_bl))
      pss_nil)
    (pss_one (ps_ret (pe_cmpR op_eq (pe_callB (call_repr hgu hr.units) rfl T.repr bo_repr (pa_cons (pe_lst (pa_cons (C8.pe_c c_drawing_text hr (by omega) rfl (pa_cons (pe_ix (r := rIxL K) ix_list (pv 5) pe_int (fun _ _ => rfl)) pa_nil)) (pa_cons (C8.pe_c c_drawing_text hr (by omega) rfl (pa_cons (pe_ix (r := rIxL K) ix_list (pv 5) pe_int (fun _ _ => rfl)) pa_nil)) pa_nil))) pa_nil)) (pe_callB (call_repr hgu hr.units) rfl T.repr bo_repr (pa_cons (pe_lst (pa_cons (pv 3) (pa_cons (pv 3) pa_nil))) pa_nil)) (nomark _)))))))))), ?_⟩
  have hT := ok.tp
  have h8 := ok.lr
  have hB := Tp_BxA hT
  have hnb := ok.nb
  have hsz := ok.sz
  have hdp := ok.dp
  have hfl := ok.fl
  have fsz := sz_flat d
  have fdp := dep_flat d
  have fnb := nb_flat d
  have fB := bxa_flat hB
  have fT := Tp_flat hT
  have fN := flat_nf d
  have fL := Ln_flat hnb
  have ff := flat_flat d
  have tl := txt_len (flat d) fB
  have tlt := txt_lt (flat d) fB
  have shd := shw_pd hB (by omega) hsz

  refine ⟨_, rfl, _, _, rfl, hD.dp, shd.a, shd.b, shd.c', shd.e', _, rfl, v, d, rfl, hD, hB, hsz, by omega, by omega, fun vb H1 s1 hvb => ⟨_, _, rfl, ?_⟩⟩
  refine ⟨_, rfl, vb, flat d, rfl, hvb, fN, fB, by omega, by omega, by omega, fun H2 s2 => ?_⟩
  refine ⟨_, rfl, v, d, rfl, (s1.trans s2).dr hD, hB, hsz, by omega, fun H3 s3 => ?_⟩
  refine ⟨_, rfl, v, d, rfl, (s1.trans (s2.trans s3)).dr hD, hB, hsz, by omega, fun H4 s4 => ?_⟩
  have s24 := s2.trans (s3.trans s4)
  refine ⟨_, rfl, vb, flat d, rfl, s24.dr hvb, fB, by omega, by omega, fun H5 s5 => ?_⟩
  refine ⟨_, rfl, v, d, rfl, (s1.trans (s24.trans s5)).dr hD, hB, hsz, by omega, by omega, fun v6 H6 s6 hv6 => ?_⟩
  refine ⟨v6, flat d, rfl, hv6, fB, by omega, by omega, fun H7 s7 => ⟨by show 4 ≤ sizeLine; decide, fun lt hlt => ?_⟩⟩
  rw [ff]
  generalize hx : S (txt (flat d)) = x
  have s8 : Same H7 (upd H7 lt (.lst [V.str x, .str x, .str x, .str x])) := same_new hlt
  have e8 : upd H7 lt (.lst [V.str x, .str x, .str x, .str x]) lt = some (.lst [V.str x, .str x, .str x, .str x]) := upd_same
  generalize upd H7 lt (.lst [V.str x, .str x, .str x, .str x]) = H8 at s8 e8
  have s28 := s24.trans (s5.trans (s6.trans (s7.trans s8)))
  have shT : ∀ ds : List PyData, (∀ d ∈ ds, d = .str x) → ds.length ≤ 5 → Shw (.list ds) := fun ds h1 h2 => shw_texts tlt (by omega) (by rw [hx]; exact h1) h2
  have dp4 : Dp K H8 (.ref lt) (.list [.str x, .str x, .str x, .str x]) := .lst (SqL.of e8) (.cons (.str _) (.cons (.str _) (.cons (.str _) (.cons (.str _) .nil))))
  have sh4 := shT [.str x, .str x, .str x, .str x] (by simp) (by simp)
  have sh2 := shT [.str x, .str x] (by simp) (by simp)
  refine ⟨_, rfl, _, _, rfl, dp4, sh4.a, sh4.b, sh4.c', sh4.e', _, rfl, by show 1 ≤ sizeLine; decide, fun l1 hl1 => ?_⟩
  have s9 : Same H8 (upd H8 l1 (.lst [V.str x])) := same_new hl1
  have e9 : upd H8 l1 (.lst [V.str x]) l1 = some (.lst [V.str x]) := upd_same
  generalize upd H8 l1 (.lst [V.str x]) = H9 at s9 e9
  refine ⟨l1, 4, _, rfl, rfl, e9, by decide, by decide, by show 4 ≤ sizeLine; decide, fun l2 hl2 => ?_⟩
  have s10 := same_new (o := .lst (List.replicate (4 : Int).toNat [V.str x]).flatten) hl2
  have dp4' : Dp K (upd H9 l2 (.lst (List.replicate (4 : Int).toNat [V.str x]).flatten)) (.ref l2) (.list [.str x, .str x, .str x, .str x]) := .lst (SqL.of upd_same) (.cons (.str _) (.cons (.str _) (.cons (.str _) (.cons (.str _) .nil))))
  generalize upd H9 l2 (.lst (List.replicate (4 : Int).toNat [V.str x]).flatten) = H10 at s10 dp4'
  have s210 := s28.trans (s9.trans s10)
  refine ⟨_, _, rfl, dp4', sh4.a, sh4.b, sh4.c', sh4.e', rfl, _, rfl, ?_⟩
  rw [decide_eq_true rfl]
  refine iteF ⟨_, rfl, _, _, rfl, ((s1.trans s210).dr hD).dp, shd.a, shd.b, shd.c', shd.e', _, rfl, rfl, _, rfl, ?_⟩
  rw [decide_eq_true rfl]
  refine iteF ?_
  have ePar : ∀ {H H' : Hp} {Q : VK}, (∀ v' H', Same H H' → Dr K H' (flat d) v' → Q v' H') → spParse K [.str x] H Q C8.E0 := fun {H H' Q} qq => ⟨flat d, l, r, by rw [hx], fN, fT, fL, h8, by omega, hfl, by omega, qq⟩
  refine ⟨_, rfl, ePar (H' := H10) fun w1 H11 s11 hw1 => ?_⟩
  refine ⟨_, rfl, _, _, _, _, rfl, rfl, SqL.of ((s9.trans (s10.trans s11)) _ _ e8), rfl, ePar (H' := H10) fun w2 H12 s12 hw2 => ?_⟩
  refine ⟨_, rfl, ePar (H' := H10) fun w3 H13 s13 hw3 => ⟨by show 3 ≤ sizeLine; decide, fun lb hlb => ?_⟩⟩
  have s14 : Same H13 (upd H13 lb (.lst [w1, w2, w3])) := same_new hlb
  have e14 : upd H13 lb (.lst [w1, w2, w3]) lb = some (.lst [w1, w2, w3]) := upd_same
  generalize upd H13 lb (.lst [w1, w2, w3]) = H14 at s14 e14
  have h1' := (s12.trans (s13.trans s14)).dr hw1
  have h2' := (s13.trans s14).dr hw2
  have h3' := s14.dr hw3
  have s214 := s210.trans (s11.trans (s12.trans (s13.trans s14)))
  have dp3 : Dp K H14 (.ref lb) (.list [pd (flat d), pd (flat d), pd (flat d)]) := .lst (SqL.of e14) (.cons h1'.dp (.cons h2'.dp (.cons h3'.dp .nil)))
  have shD : Shw (.list [pd (flat d), pd (flat d), pd (flat d)]) := shw_draws fB (by omega) (by omega) (by simp) (by simp)
  refine ⟨_, rfl, _, _, rfl, dp3, shD.a, shD.b, shD.c', shD.e', _, rfl, by show 1 ≤ sizeLine; decide, fun l3 hl3 => ?_⟩
  have s15 : Same H14 (upd H14 l3 (.lst [vb])) := same_new hl3
  have e15 : upd H14 l3 (.lst [vb]) l3 = some (.lst [vb]) := upd_same
  generalize upd H14 l3 (.lst [vb]) = H15 at s15 e15
  refine ⟨l3, 3, _, rfl, rfl, e15, by decide, by decide, by show 3 ≤ sizeLine; decide, fun l4 hl4 => ?_⟩
  have s16 := same_new (o := .lst (List.replicate (3 : Int).toNat [vb]).flatten) hl4
  have hvb' := (s214.trans (s15.trans s16)).dr hvb
  have dp3' : Dp K (upd H15 l4 (.lst (List.replicate (3 : Int).toNat [vb]).flatten)) (.ref l4) (.list [pd (flat d), pd (flat d), pd (flat d)]) := .lst (SqL.of upd_same) (.cons hvb'.dp (.cons hvb'.dp (.cons hvb'.dp .nil)))
  generalize upd H15 l4 (.lst (List.replicate (3 : Int).toNat [vb]).flatten) = H16 at s16 dp3' hvb'
  refine ⟨_, _, rfl, dp3', shD.a, shD.b, shD.c', shD.e', rfl, _, rfl, ?_⟩
  rw [decide_eq_true rfl]
  have s1416 := s15.trans s16
  refine iteF ⟨_, rfl, _, _, _, _, rfl, rfl, SqL.of (s1416 _ _ e14), rfl, w1, flat d, l, r, rfl, s1416.dr h1', fT, fL, h8, by omega, hfl, by omega, fun H17 s17 => ⟨rfl, _, rfl, iteF ?_⟩⟩
  have s1417 := s1416.trans s17
  refine ⟨_, rfl, _, _, _, _, rfl, rfl, SqL.of (s1417 _ _ e14), rfl, w1, flat d, rfl, s1417.dr h1', fB, by omega, by omega, fun H18 s18 => ?_⟩
  refine ⟨_, rfl, _, _, _, _, rfl, rfl, SqL.of ((s1417.trans s18) _ _ e14), rfl, w2, flat d, rfl, (s1417.trans s18).dr h2', fB, by omega, by omega, fun H19 s19 => ⟨by show 2 ≤ sizeLine; decide, fun l5 hl5 => ?_⟩⟩
  rw [ff, hx]
  have s20 : Same H19 (upd H19 l5 (.lst [V.str x, .str x])) := same_new hl5
  have dp2 : Dp K (upd H19 l5 (.lst [V.str x, .str x])) (.ref l5) (.list [.str x, .str x]) := .lst (SqL.of upd_same) (.cons (.str _) (.cons (.str _) .nil))
  generalize upd H19 l5 (.lst [V.str x, .str x]) = H20 at s20 dp2
  refine ⟨_, _, rfl, dp2, sh2.a, sh2.b, sh2.c', sh2.e', _, rfl, _, rfl, by show 2 ≤ sizeLine; decide, fun l6 hl6 => ?_⟩
  have s21 : Same H20 (upd H20 l6 (.lst [V.str x, .str x])) := same_new hl6
  have dp2' : Dp K (upd H20 l6 (.lst [V.str x, .str x])) (.ref l6) (.list [.str x, .str x]) := .lst (SqL.of upd_same) (.cons (.str _) (.cons (.str _) .nil))
  refine ⟨_, _, rfl, dp2', sh2.a, sh2.b, sh2.c', sh2.e', rfl, ?_⟩
  rw [decide_eq_true rfl]
  exact q _ (s1.trans (s214.trans (s1417.trans (s18.trans (s19.trans (s20.trans s21))))))
end K9

set_option maxHeartbeats 4000000
namespace K9
open PySem PySem.Spec L2
/-- two drawings have one text just when they are one -/
def spApart (K : PySem.W.Frag) : Sp := fun vs H Q _ => ∃ (v u : V) (d e : D) (l r l' r' : Nat), vs = [v, u] ∧ Dr K H d v ∧ Dr K H e u ∧ Ok d l r ∧ Ok e l' r' ∧ ∀ H', Same H H' → Q (.bl true) H'
abbrev s_law_is_apart : Stmt := top 53
abbrev N_law_is_apart : List Str := ["_law_one", "_law_two", "_law_is_one", "_law_told"]
theorem sc_law_is_apart : FnScope N_law_is_apart ["_law_one", "_law_two"] (C8.fnScope s_law_is_apart) := C8.fnScope_by (by decide +kernel)
theorem ok_law_is_apart {P : Program} {w : World} {K : PySem.W.Frag} {mg : Str → Option Value} {base : Heap} (T : Tp0 w K mg) (F : D0 K mg "_law_is_apart" s_law_is_apart ["_law_one", "_law_two"])
    (c_fl : ∀ n, C8.Cal P w K mg base (n + 2) "flattened" (spFlat K n) []) (c_ba : ∀ n, C8.Cal P w K mg base (n + 2) "_law_bare" (spFlat K n) [])
    (c_drawing_text : C8.Cal P w K mg base 40 "drawing_text" (spDText K) []) : CalG P w K mg base 50 "_law_is_apart" (spApart K) := by
  have c_flattened := c_fl 31
  have c_law_bare := c_ba 31
  refine F.okG (k := 49) sc_law_is_apart (fun vs H Q E h => ?_) (fun f cdv A outer s H vs Q E hr hgu h => ?_)
  · obtain ⟨_, _, _, _, _, _, _, _, rfl, _⟩ := h
    rfl
  obtain ⟨v, u, d, e, l, r, l', r', rfl, hD, hE, ok, ok', q⟩ := h
  refine ⟨_, (pss_cons (ps_set (i := 2) sc_law_is_apart.nd rfl (Or.inl rfl) (pe_cmpR op_eq (pe_callB (call_repr hgu hr.units) rfl T.repr bo_repr (pa_cons (C8.pe_c c_law_bare hr (by omega) rfl (pa_cons (pv 0) pa_nil)) pa_nil)) (pe_callB (call_repr hgu hr.units) rfl T.repr bo_repr (pa_cons (C8.pe_c c_law_bare hr (by omega) rfl (pa_cons (pv 1) pa_nil)) pa_nil)) (nomark _)))
    (pss_cons (ps_set (i := 3) sc_law_is_apart.nd rfl (Or.inl rfl) (pe_lst (pa_cons (pe_cmpR op_eq (C8.pe_c c_drawing_text hr (by omega) rfl (pa_cons (pv 0) pa_nil)) (C8.pe_c c_drawing_text hr (by omega) rfl (pa_cons (pv 1) pa_nil)) (nomark _)) (pa_cons (pe_cmpR op_eq (pe_callB (call_repr hgu hr.units) rfl T.repr bo_repr (pa_cons (C8.pe_c c_flattened hr (by omega) rfl (pa_cons (pv 0) pa_nil)) pa_nil)) (pe_callB (call_repr hgu hr.units) rfl T.repr bo_repr (pa_cons (C8.pe_c c_flattened hr (by omega) rfl (pa_cons (pv 1) pa_nil)) pa_nil)) (nomark _)) pa_nil))))
    (pss_one (ps_ret (pe_cmpR op_eq (pe_callB (call_repr hgu hr.units) rfl T.repr bo_repr (pa_cons (pv 3) pa_nil)) (pe_callB (call_repr hgu hr.units) rfl T.repr bo_repr (pa_cons (pe_lst (pa_cons (pv 2) (pa_cons (pv 2) pa_nil))) pa_nil)) (nomark _)))))), ?_⟩
  have hBd := Tp_BxA ok.tp
  have hBe := Tp_BxA ok'.tp
  have a1 := ok.sz
  have a2 := ok.dp
  have a3 := ok.fl
  have b1 := ok'.sz
  have b2 := ok'.dp
  have b3 := ok'.fl
  have fd1 := sz_flat d
  have fd2 := dep_flat d
  have fe1 := sz_flat e
  have fe2 := dep_flat e
  have sd := shw_pd (bxa_flat hBd) (by omega) (by omega)
  have se := shw_pd (bxa_flat hBe) (by omega) (by omega)
  have key : decide (V.str (S (txt (flat d))) = V.str (S (txt (flat e)))) = decide (V.str (pd (flat d)).shown = V.str (pd (flat e)).shown) := by
    by_cases c : txt (flat d) = txt (flat e)
    · have z := txt_inj (flat_nf d) (bxa_flat hBd) a3 (flat_nf e) (bxa_flat hBe) b3 c
      rw [c, z, decide_eq_true rfl, decide_eq_true rfl]
    · rw [S_dec, decide_eq_false c, decide_eq_false]
      intro z
      have z' : (pd (flat d)).shown = (pd (flat e)).shown := by injection z
      have := shown_inj (bxa_flat hBd) (bxa_flat hBe) z'
      exact c (by rw [this])
  refine ⟨_, rfl, v, d, rfl, hD, hBd, a1, by omega, by omega, fun v1 H1 s1 hv1 => ?_⟩
  refine ⟨_, _, rfl, hv1.dp, sd.a, sd.b, sd.c', sd.e', ?_⟩
  refine ⟨_, rfl, u, e, rfl, s1.dr hE, hBe, b1, by omega, by omega, fun u1 H2 s2 hu1 => ?_⟩
  refine ⟨_, _, rfl, hu1.dp, se.a, se.b, se.c', se.e', ?_⟩
  refine ⟨rfl, ?_⟩
  have s12 := s1.trans s2
  refine ⟨_, rfl, v, d, rfl, s12.dr hD, hBd, a1, by omega, fun H3 s3 => ?_⟩
  refine ⟨_, rfl, u, e, rfl, (s12.trans s3).dr hE, hBe, b1, by omega, fun H4 s4 => ?_⟩
  refine ⟨rfl, ?_⟩
  have s14 := s12.trans (s3.trans s4)
  refine ⟨_, rfl, v, d, rfl, s14.dr hD, hBd, a1, by omega, by omega, fun v2 H5 s5 hv2 => ?_⟩
  refine ⟨_, _, rfl, hv2.dp, sd.a, sd.b, sd.c', sd.e', ?_⟩
  refine ⟨_, rfl, u, e, rfl, (s14.trans s5).dr hE, hBe, b1, by omega, by omega, fun u2 H6 s6 hu2 => ?_⟩
  refine ⟨_, _, rfl, hu2.dp, se.a, se.b, se.c', se.e', ?_⟩
  refine ⟨rfl, by show 2 ≤ sizeLine; decide, fun lt hlt => ?_⟩
  rw [key]
  generalize decide (V.str (pd (flat d)).shown = V.str (pd (flat e)).shown) = b
  have shb : Shw (.list [.bool b, .bool b]) := shw_bools (by simp) (by simp)
  have s7 : Same H6 (upd H6 lt (.lst [V.bl b, .bl b])) := same_new hlt
  have dpb : Dp K (upd H6 lt (.lst [V.bl b, .bl b])) (.ref lt) (.list [.bool b, .bool b]) := .lst (SqL.of upd_same) (.cons (.bl _) (.cons (.bl _) .nil))
  generalize upd H6 lt (.lst [V.bl b, .bl b]) = H7 at s7 dpb
  refine ⟨_, rfl, _, _, rfl, dpb, shb.a, shb.b, shb.c', shb.e', ?_⟩
  refine ⟨_, rfl, _, rfl, by show 2 ≤ sizeLine; decide, fun l2 hl2 => ?_⟩
  have s8 : Same H7 (upd H7 l2 (.lst [V.bl b, .bl b])) := same_new hl2
  have dpb2 : Dp K (upd H7 l2 (.lst [V.bl b, .bl b])) (.ref l2) (.list [.bool b, .bool b]) := .lst (SqL.of upd_same) (.cons (.bl _) (.cons (.bl _) .nil))
  refine ⟨_, _, rfl, dpb2, shb.a, shb.b, shb.c', shb.e', rfl, ?_⟩
  rw [decide_eq_true rfl]
  exact q _ (s14.trans (s5.trans (s6.trans (s7.trans s8))))
end K9

set_option maxHeartbeats 4000000
namespace K9
open PySem PySem.Spec L2
/-! ### what the law keeps: its sketches and their texts -/
def KnR (K : PySem.W.Frag) (H : Hp) (t : Kd) (kn : Addr) (d : D) (v : V) : Prop := ∃ p sv, v = .ref p ∧ H p = some (.lst [sv, .str (S (txt (flat d)))]) ∧ Dr K H d sv ∧ p ≠ t.dk ∧ p ≠ t.d0 ∧ p ≠ kn
structure Kn (K : PySem.W.Frag) (H : Hp) (t : Kd) (kn : Addr) (ds : List D) (xs : List V) : Prop where
  at_ : H kn = some (.lst xs)
  lk : Lk (KnR K H t kn) ds xs
  ok : ∀ d ∈ ds, ∃ l r, Ok d l r
theorem KnR.step {K : PySem.W.Frag} {H H' : Hp} {t : Kd} {kn : Addr} {d : D} {v : V} (e : DS t H H') (h : KnR K H t kn d v) : KnR K H' t kn d v := by
  obtain ⟨p, sv, rfl, h1, h2, n1, n2, n3⟩ := h
  exact ⟨p, sv, rfl, e.keep h1 n1 n2, e.dr h2, n1, n2, n3⟩
theorem Kn.step {K : PySem.W.Frag} {H H' : Hp} {t : Kd} {kn : Addr} {ds : List D} {xs : List V} (e : DS t H H') (n1 : kn ≠ t.dk) (n2 : kn ≠ t.d0) (h : Kn K H t kn ds xs) : Kn K H' t kn ds xs :=
  ⟨e.keep h.at_ n1 n2, h.lk.mono fun _ _ z => z.step e, h.ok⟩
theorem Kn.add {K : PySem.W.Frag} {H : Hp} {t : Kd} {kn p : Addr} {ds : List D} {xs : List V} {d : D} {sv : V} {l r : Nat} (h : Kn K H t kn ds xs) (hp : H p = some (.lst [sv, .str (S (txt (flat d)))])) (hd : Dr K H d sv) (ok : Ok d l r) (n1 : p ≠ t.dk) (n2 : p ≠ t.d0) (n3 : p ≠ kn) :
    Kn K (upd H kn (.lst (xs ++ [.ref p]))) t kn (ds ++ [d]) (xs ++ [.ref p]) := by
  have kk := kp_lst (o := .lst (xs ++ [.ref p])) h.at_
  refine ⟨upd_same, (h.lk.mono fun d' v z => ?_).app (Lk.one ⟨p, sv, rfl, by rw [upd_ne n3]; exact hp, kk.dr hd, n1, n2, n3⟩), fun x hx => ?_⟩
  · obtain ⟨p', sv', rfl, h1, h2, m1, m2, m3⟩ := z
    exact ⟨p', sv', rfl, by rw [upd_ne m3]; exact h1, kk.dr h2, m1, m2, m3⟩
  · rcases List.mem_append.mp hx with hx | hx
    · exact h.ok x hx
    · have : x = d := by simpa using hx
      subst this
      exact ⟨l, r, ok⟩
theorem ok_pc {d : D} {l r : Nat} (h : Tp d l r) (h8 : l + r ≤ 8) (hz : sz d ≤ 400) (hd : dep d ≤ 12) : Ok d l r := by
  have := nb_sz d
  have := dep_flat d
  exact ⟨h, h8, by omega, by omega, by omega, by omega⟩
theorem ok_bk {d e : D} {l r : Nat} (h : BR (flat d) e) (ok : Ok d l r) (hz : sz d ≤ 900) (hd : dep d ≤ 10) : Ok e l r := by
  obtain ⟨h1, h2, h3, h4⟩ := h
  have a1 := sz_flat d
  have a2 := dep_flat d
  have a3 := nb_flat e
  have a4 := nb_flat d
  rw [h1, flat_flat] at a3
  have := ok.nb
  refine ⟨h2 _ _ (Tp_flat ok.tp), ok.lr, by omega, by omega, by omega, ?_⟩
  rw [h1, flat_flat]
  omega
theorem Ch_rep {d : D} {m : Nat} (h : Tp d m m) : ∀ k, Ch (List.replicate k d) m m
  | 0 => by simp [Ch]
  | k + 1 => by
    rw [List.replicate_succ]
    simp only [Ch]
    exact ⟨m, h, Ch_rep h k⟩
theorem nfs_rep (b : Bool) (i k : Nat) : ∀ n, Nfs b (List.replicate n (.bx i k))
  | 0 => by simp [Nfs]
  | n + 1 => by
    rw [List.replicate_succ]
    simp only [Nfs]
    exact ⟨trivial, fun c qs h => (by cases h), nfs_rep b i k n⟩
theorem ptxts_rep (i k : Nat) : ∀ n, ptxts (List.replicate n (.bx i k)) = List.replicate n (btxt i k)
  | 0 => rfl
  | n + 1 => by rw [List.replicate_succ, ptxts_cons, ptxts_rep i k n, List.replicate_succ]; rfl
theorem bxas_rep {d : D} (h : BxA d) : ∀ n, BxAs (List.replicate n d)
  | 0 => by simp [BxAs]
  | n + 1 => by
    rw [List.replicate_succ]
    simp only [BxAs]
    exact ⟨h, bxas_rep h n⟩
theorem bt6 : ∀ i : Nat, i < 14 → ∀ k : Nat, k < 7 → isnum i = true → word i ++ ((" " : String) : Str) ++ ((toString (k : Int) : String) : Str) = S (btxt i k) := by decide +kernel
theorem bt7 : ∀ i : Nat, i < 14 → ∀ k : Nat, k < 7 → (word i).length + ((" " : String) : Str).length ≤ 100 ∧ (word i ++ ((" " : String) : Str)).length + ((toString (k : Int) : String) : Str).length ≤ 100 := by decide +kernel
theorem shw_known {ls : List (List Nat)} (h : ∀ x ∈ ls, (∀ c ∈ x, c < 128) ∧ x.length ≤ 7000) (h5 : ls.length ≤ 5) : Shw (.list ((ls.map S).map PyData.str)) := by
  refine shw_list (M := 70002) (fun d hd => ?_) (by simp only [List.length_map]; omega)
  simp only [List.map_map, List.mem_map] at hd
  obtain ⟨x, hx, rfl⟩ := hd
  obtain ⟨h1, h2⟩ := h x hx
  refine ⟨by simp [PyData.showable], by simp [PyData.hasDict], by simp [PyData.depth], ?_⟩
  have := StrLaws.reprText_len (S x) (fun c hc => by
    have := h1 c (by simpa [S] using hc)
    omega)
  rw [S_len] at this
  show (PyData.shown (.str (S x))).length ≤ _
  simp only [PyData.shown]
  omega
theorem upd_new {H : Hp} {p : Addr} {o : HO} (_ : H p = none) : upd H p o p = some o := upd_same
/-- the law -/
def spLaw (K : PySem.W.Frag) : Sp := fun vs H Q _ => ∃ (o : Addr) (xs : List Int), vs = [.ref o] ∧ SqL K H o (xs.map V.int) ∧ ∀ H', Q (.bl true) H'
abbrev s_law : Stmt := top 54
abbrev N_law : List Str := ["_law_script", "_law_deck_here", "_law_known", "_law_turn", "_law_left", "_law_right", "_law_sketch", "_law_near_here", "_law_bare_here", "_law_one", "_law_many", "_law_word", "_law_takes", "_law_gives", "_law_box", "_law_wide", "_law_part", "_law_lone", "_law_much", "_law_text_here", "_law_due"]
theorem sc_law : FnScope N_law ["_law_script"] (C8.fnScope s_law) := C8.fnScope_by (by decide +kernel)
theorem ok_law {P : Program} {w : World} {K : PySem.W.Frag} {mg : Str → Option Value} {base : Heap} (T : Tp0 w K mg) (F : D0 K mg "law" s_law ["_law_script"])
    (c_law_deck : C8.Cal P w K mg base 1 "_law_deck" (spDeck K) []) (c_law_draw : C8.Cal P w K mg base 1 "_law_draw" spDraw []) (c_law_pick : C8.Cal P w K mg base 2 "_law_pick" spPick []) (c_law_menu : C8.Cal P w K mg base 1 "_law_menu" (spMenu K) [])
    (c_pi : ∀ n, C8.Cal P w K mg base (n + 4) "_law_piece" (spPiece K n) []) (c_law_near : C8.Cal P w K mg base 40 "_law_near" (spNear K) []) (c_ba : ∀ n, C8.Cal P w K mg base (n + 2) "_law_bare" (spFlat K n) [])
    (c_br : ∀ n, C8.Cal P w K mg base (n + 41) "_law_bracketed" (spBrack K n) []) (c_te : ∀ n, C8.Cal P w K mg base (n + 2) "_law_text" (spText K n) []) (c_law_ladder : C8.Cal P w K mg base 3 "_law_ladder" (spLadder K) [])
    (c_law_is_told : CalG P w K mg base 50 "_law_is_told" (spTold K)) (c_law_is_apart : CalG P w K mg base 50 "_law_is_apart" (spApart K)) (c_drawing_text : C8.Cal P w K mg base 40 "drawing_text" (spDText K) []) : CalG P w K mg base 60 "law" (spLaw K) := by
  have c_law_piece := c_pi 4
  have c_law_bare := c_ba 31
  have c_law_bracketed := c_br 11
  have c_law_text := c_te 31
  refine F.okG (k := 59) sc_law (fun vs H Q E h => ?_) (fun f cdv A outer s H vs Q E hr hgu h => ?_)
  · obtain ⟨_, _, rfl, _⟩ := h
    rfl
  obtain ⟨sc, ns, rfl, hsc, q⟩ := h
  refine ⟨_, (pss_cons (ps_set (i := 1) sc_law.nd rfl (Or.inl rfl) (C8.pe_c c_law_deck hr (by omega) rfl (pa_cons (pv 0) pa_nil)))
    (pss_cons (ps_set (i := 2) sc_law.nd rfl (Or.inl rfl) (pe_lst pa_nil))
    (pss_cons (ps_for PassesOwn.never rfl (pi_range1 rfl T.range (pa_cons pe_int pa_nil)) (pg_name (i := 3) sc_law.nd rfl (Or.inl rfl))
      (pss_cons (ps_set (i := 4) sc_law.nd rfl (Or.inl rfl) (C8.pe_c c_law_draw hr (by omega) rfl (pa_cons (pv 1) (pa_cons pe_int pa_nil))))
        (pss_cons (ps_set (i := 5) sc_law.nd rfl (Or.inl rfl) (pe_ifExp (pt_cmpR op_lt (pv 3) pe_int (nomark _)) (C8.pe_c c_law_draw hr (by omega) rfl (pa_cons (pv 1) (pa_cons pe_int pa_nil))) (C8.pe_c c_law_draw hr (by omega) rfl (pa_cons (pv 1) (pa_cons (pe_op op_sub pe_int (pv 4)) pa_nil)))))
        (pss_cons (ps_set (i := 6) sc_law.nd rfl (Or.inl rfl) (C8.pe_c c_law_piece hr (by omega) rfl (pa_cons (pv 1) (pa_cons (pv 4) (pa_cons (pv 5) (pa_cons pe_int (pa_cons (pe_op op_sub (pe_op op_sub pe_int (pv 4)) (pv 5)) (pa_cons (pe_cmpR op_eq (pv 3) pe_int (nomark _)) pa_nil))))))))
        (pss_cons (ps_par (i := 7) (j := 8) rfl sc_law.nd rfl rfl (by decide) rfl rfl (pa_cons (C8.pe_c c_law_near hr (by omega) rfl (pa_cons (pv 1) (pa_cons (pv 6) pa_nil))) (pa_cons (C8.pe_c c_law_bare hr (by omega) rfl (pa_cons (pv 6) pa_nil)) pa_nil)) (by rfl))
        (pss_cons (ps_for PassesOwn.never rfl (pi_list (pe_lst (pa_cons (pv 6) (pa_cons (pv 7) (pa_cons (C8.pe_c c_law_bracketed hr (by omega) rfl (pa_cons (pv 1) (pa_cons (pv 8) pa_nil))) (pa_cons (C8.pe_c c_law_bracketed hr (by omega) rfl (pa_cons (pv 1) (pa_cons (pv 8) pa_nil))) pa_nil)))))) (pg_name (i := 9) sc_law.nd rfl (Or.inl rfl))
          (pss_one (ps_if (pt_not (pt_val (pe_cG c_law_is_told hr hgu (by omega) rfl (pa_cons (pv 9) pa_nil))))
              (pss_one (ps_ret pe_bl))
              pss_nil)))
        (pss_cons (ps_expr (pe_bm PySem.F.plainAttrs_list PySem.F.slot_list_append PySem.F.type_list_append mt_append (pv 2) (pa_cons (pe_lst (pa_cons (pv 6) (pa_cons (C8.pe_c c_law_text hr (by omega) rfl (pa_cons (pv 8) pa_nil)) pa_nil))) pa_nil)))
        (pss_one (ps_if (PW.pt (pw_or (pt_not (pt_val (pe_cG c_law_is_apart hr hgu (by omega) rfl (pa_cons (pv 6) (pa_cons (pv 7) pa_nil))))) (pw_or1 (pt_not (pt_val (pe_cG c_law_is_apart hr hgu (by omega) rfl (pa_cons (pv 6) (pa_cons (pe_ix (r := rIxL K) ix_list (pe_ix (r := rIxL K) ix_list (pv 2) (C8.pe_c c_law_draw hr (by omega) rfl (pa_cons (pv 1) (pa_cons (pe_op op_add (pv 3) pe_int) pa_nil))) (fun _ _ => rfl)) pe_int (fun _ _ => rfl)) pa_nil))))))))
          (pss_one (ps_ret pe_bl))
          pss_nil)))))))))
    (pss_cons (ps_for PassesOwn.never rfl (pi_list (pe_lst (pa_cons pe_int (pa_cons pe_int (pa_cons (pe_op op_add pe_int (C8.pe_c c_law_draw hr (by omega) rfl (pa_cons (pv 1) (pa_cons pe_int pa_nil)))) pa_nil))))) (pg_name (i := 10) sc_law.nd rfl (Or.inl rfl))
      (pss_one (ps_if (pt_not (pt_val (pe_cG c_law_is_told hr hgu (by omega) rfl (pa_cons (C8.pe_c c_law_ladder hr (by omega) rfl (pa_cons (pv 1) (pa_cons (pv 10) pa_nil))) pa_nil))))
          (pss_one (ps_ret pe_bl))
          pss_nil)))
    (pss_cons (ps_for PassesOwn.never rfl (pi_list (C8.pe_c c_law_menu hr (by omega) rfl (pa_cons pe_bl pa_nil))) (pg_tup rfl (pgs_cons (pg_name (i := 11) sc_law.nd rfl (Or.inl rfl)) (pgs_cons (pg_name (i := 12) sc_law.nd rfl (Or.inl rfl)) (pgs_cons (pg_name (i := 13) sc_law.nd rfl (Or.inl rfl)) pgs_nil))))
      (pss_cons (ps_set (i := 14) sc_law.nd rfl (Or.inl rfl) (pe_ifExp (pt_cmpR op_in_seq (pv 11) (pe_tup (pa_cons pe_str (pa_cons pe_str pa_nil))) (by rfl)) (pe_tup (pa_cons (pv 11) (pa_cons (C8.pe_c c_law_draw hr (by omega) rfl (pa_cons (pv 1) (pa_cons pe_int pa_nil))) pa_nil))) (pe_tup (pa_cons (pv 11) pa_nil))))
        (pss_one (ps_if (PW.pt (pw_or (pt_not (pt_val (pe_cG c_law_is_told hr hgu (by omega) rfl (pa_cons (pv 14) pa_nil)))) (pw_or1 (pt_not (pt_val (pe_cG c_law_is_told hr hgu (by omega) rfl (pa_cons (pe_tup (pa_cons pe_str (pa_cons (pe_tup (pa_cons (pe_tup (pa_cons pe_str (pa_cons (pe_tup (pa_cons (pv 14) (pa_cons (pe_tup (pa_cons pe_str (pa_cons (pe_tup pa_nil) pa_nil))) pa_nil))) pa_nil))) pa_nil)) pa_nil))) pa_nil)))))))
          (pss_one (ps_ret pe_bl))
          pss_nil))))
    (pss_cons (ps_set (i := 8) sc_law.nd rfl (Or.inl rfl) (pe_tup (pa_cons pe_str (pa_cons (pe_tup pa_nil) pa_nil))))
    (pss_cons (ps_for PassesOwn.never rfl (pi_list (pe_lst (pa_cons (pv 8) (pa_cons (pe_tup (pa_cons pe_str (pa_cons (pe_tup (pa_cons (pv 8) (pa_cons (pv 8) pa_nil))) pa_nil))) (pa_cons (pe_tup (pa_cons pe_str (pa_cons (pe_tup (pa_cons (pv 8) (pa_cons (pe_tup (pa_cons pe_str (pa_cons (pe_tup (pa_cons (pv 8) pa_nil)) pa_nil))) pa_nil))) pa_nil))) pa_nil))))) (pg_name (i := 6) sc_law.nd rfl (Or.inl rfl))
      (pss_one (ps_if (pt_not (pt_val (pe_cG c_law_is_told hr hgu (by omega) rfl (pa_cons (pv 6) pa_nil))))
          (pss_one (ps_ret pe_bl))
          pss_nil)))
    (pss_cons (ps_par (i := 15) (j := 10) rfl sc_law.nd rfl rfl (by decide) rfl rfl (pa_cons (pe_op op_add pe_int (C8.pe_c c_law_draw hr (by omega) rfl (pa_cons (pv 1) (pa_cons pe_int pa_nil)))) (pa_cons (pe_op op_add pe_int (C8.pe_c c_law_draw hr (by omega) rfl (pa_cons (pv 1) (pa_cons pe_int pa_nil)))) pa_nil)) (by rfl))
    (pss_cons (ps_set (i := 16) sc_law.nd rfl (Or.inl rfl) (C8.pe_c c_law_piece hr (by omega) rfl (pa_cons (pv 1) (pa_cons (pv 15) (pa_cons (pv 15) (pa_cons pe_int (pa_cons (pe_op op_sub pe_int (pe_op op_mul pe_int (pv 15))) (pa_cons pe_bl pa_nil))))))))
    (pss_cons (ps_if (pt_not (pt_val (pe_cG c_law_is_told hr hgu (by omega) rfl (pa_cons (pe_tup (pa_cons pe_str (pa_cons (pe_op op_mulT (pe_tup (pa_cons (pv 16) pa_nil)) (pv 10)) pa_nil))) pa_nil))))
      (pss_one (ps_ret pe_bl))
      pss_nil)
    (pss_cons (ps_par (i := 17) (j := 18) rfl sc_law.nd rfl rfl (by decide) rfl rfl (pa_cons (pe_tup (pa_cons (C8.pe_c c_law_pick hr (by omega) rfl (pa_cons (pv 1) (pa_cons (pe_lst (pa_cons pe_str (pa_cons pe_str pa_nil))) pa_nil))) (pa_cons (C8.pe_c c_law_draw hr (by omega) rfl (pa_cons (pv 1) (pa_cons pe_int pa_nil))) pa_nil))) (pa_cons (pe_op op_add pe_int (C8.pe_c c_law_draw hr (by omega) rfl (pa_cons (pv 1) (pa_cons pe_int pa_nil)))) pa_nil)) (by rfl))
    (pss_cons (ps_set (i := 19) sc_law.nd rfl (Or.inl rfl) (pe_join pe_str (pe_op op_rep (pe_lst (pa_cons (pe_op op_add_str (pe_op op_add_str (pe_callTy call_strA rfl T.str bo_str (pa_cons (pe_ix (r := rIxT K) ix_tup (pv 17) pe_int (fun _ _ => rfl)) pa_nil)) pe_str) (pe_callTy call_strA rfl T.str bo_str (pa_cons (pe_ix (r := rIxT K) ix_tup (pv 17) pe_int (fun _ _ => rfl)) pa_nil))) pa_nil)) (pv 18))))
    (pss_cons (ps_if (pt_cmpR op_ne (pe_callB (call_repr hgu hr.units) rfl T.repr bo_repr (pa_cons (C8.pe_c c_drawing_text hr (by omega) rfl (pa_cons (pe_tup (pa_cons pe_str (pa_cons (pe_op op_mulT (pe_tup (pa_cons (pv 17) pa_nil)) (pv 18)) pa_nil))) pa_nil)) pa_nil)) (pe_callB (call_repr hgu hr.units) rfl T.repr bo_repr (pa_cons (pv 19) pa_nil)) (nomark _))
      (pss_one (ps_ret pe_bl))
      pss_nil)
    (pss_one (ps_ret (pe_cmpR op_eq (pe_callB (call_repr hgu hr.units) rfl T.repr bo_repr (pa_cons (pe_lc (own := [("_law_sketch", 6), ("_law_due", 20)]) (g := gUnl _ 2 (gCons (gName 6) (gCons (gName 20) gNil))) (tt := tYes) rfl sc_law.nd (pi_list (pv 2)) (blkOk_by (N := N_law) (sc := C8.fnScope s_law) (by decide +kernel)) (fun _ _ _ _ _ => (pg_unl rfl (pgs_cons (pg_name (i := 6) sc_law.nd rfl (Or.inl rfl)) (pgs_cons (pg_name (i := 20) sc_law.nd rfl (Or.inl rfl)) pgs_nil)))) (fun _ _ _ _ _ => pts_nil) (fun _ _ _ _ _ => (C8.pe_c c_drawing_text hr (by omega) rfl (pa_cons (pv 6) pa_nil)))) pa_nil)) (pe_callB (call_repr hgu hr.units) rfl T.repr bo_repr (pa_cons (pe_lc (own := [("_law_sketch", 6), ("_law_due", 20)]) (g := gUnl _ 2 (gCons (gName 6) (gCons (gName 20) gNil))) (tt := tYes) rfl sc_law.nd (pi_list (pv 2)) (blkOk_by (N := N_law) (sc := C8.fnScope s_law) (by decide +kernel)) (fun _ _ _ _ _ => (pg_unl rfl (pgs_cons (pg_name (i := 6) sc_law.nd rfl (Or.inl rfl)) (pgs_cons (pg_name (i := 20) sc_law.nd rfl (Or.inl rfl)) pgs_nil)))) (fun _ _ _ _ _ => pts_nil) (fun _ _ _ _ _ => (pv 20))) pa_nil)) (nomark _))))))))))))))))), ?_⟩
  refine ⟨_, rfl, sc, ns, rfl, hsc, fun t H1 s1 hk => ?_⟩
  refine ⟨Nat.zero_le _, fun kn hkn => ?_⟩
  obtain ⟨k1, k2, k3⟩ := hk.ne hkn
  have d1 := DS.of hk (same_new (o := .lst []) hkn)
  have ekn : upd H1 kn (.lst []) kn = some (.lst []) := upd_same
  generalize upd H1 kn (.lst []) = H2 at d1 ekn
  refine ⟨_, rfl, by omega, by omega, ?_⟩
  refine for_range (lo := 0) (n := (5 : Int).toNat) (fun i σ H' => ∃ (y3 y4 y5 y6 y7 y8 y9 y10 y11 y12 y13 y14 y15 y16 y17 y18 y19 y20 : Option V) (ds : List D) (xs : List V), σ = [some (.ref sc), some (.ref t.dk), some (.ref kn), y3, y4, y5, y6, y7, y8, y9, y10, y11, y12, y13, y14, y15, y16, y17, y18, y19, y20] ∧
    DS t H1 H' ∧ Kn K H' t kn ds xs ∧ ds.length = i ∧ ∀ d ∈ ds, sz d ≤ 400) ⟨_, _, _, _, _, _, _, _, _, _, _, _, _, _, _, _, _, _, [], [], rfl, d1, ⟨ekn, Lk.nil, by simp⟩, rfl, by simp⟩ (fun i σ H' hi hP => ?_) (fun σ H' hP => ?_)
  · obtain ⟨y3, y4, y5, y6, y7, y8, y9, y10, y11, y12, y13, y14, y15, y16, y17, y18, y19, y20, ds, xs, rfl, dd, hKn, hdl, hds⟩ := hP
    have hi5 : i < 5 := hi
    refine ⟨_, rfl, t, 5, rfl, by omega, by omega, dd.2.2, fun lf H3 hlf d3 => ?_⟩
    dsimp only [gName, tSeq]
    refine te_by (te := tIf _ _ _) (fun x H4 => ∃ r : Nat, x = .int (r : Int) ∧ DS t H3 H4 ∧ lf + r ≤ 8) (fun R' kk => ?_) (fun x H4 hx => ?_)
    · refine ⟨_, rfl, _, _, rfl, rfl, _, rfl, ?_⟩
      by_cases c : (0 + (i : Int)) < 3
      · rw [decide_eq_true c]
        exact iteT ⟨_, rfl, t, 5, rfl, by omega, by omega, d3.2.2, fun r H4 hr4 d4 => kk _ _ ⟨r, rfl, d4, by omega⟩⟩
      · rw [decide_eq_false c]
        exact iteF ⟨_, rfl, _, rfl, _, _, rfl, rfl, t, 9 - lf, vint2 (by omega), by omega, by omega, d3.2.2, fun r H4 hr4 d4 => kk _ _ ⟨r, rfl, d4, by omega⟩⟩
    obtain ⟨rt, rfl, d4, h8⟩ := hx
    dsimp only [gName]
    have dd4 := (dd.trans d3).trans d4
    refine ⟨_, rfl, _, rfl, _, rfl, _, rfl, _, _, rfl, rfl, _, rfl, _, _, rfl, rfl, _, rfl, rfl, ?_⟩
    refine ⟨t, lf, rt, 3, 14 - lf - rt, decide (V.int (0 + (i : Int)) = V.int 0), vint6 rfl rfl rfl (by omega), by omega, by omega, by omega, dd4.2.2, by omega, fun v d H5 d5 hD hT hz hd => ?_⟩
    have hz : sz d ≤ 301 := hz
    have hokd := ok_pc hT h8 (by omega) (by omega)
    have dd5 := dd4.trans d5
    refine ⟨_, rfl, _, rfl, t, v, d, lf, rt, rfl, d5.2.2, hD, hT, h8, by omega, by omega, fun vn dn H6 d6 hDn hTn hzn hdn => ?_⟩
    have hokn := ok_pc hTn h8 (by omega) (by omega)
    have hB := Tp_BxA hT
    have fB := bxa_flat hB
    have fz := sz_flat d
    have fd := dep_flat d
    have fT := Tp_flat hT
    refine ⟨_, rfl, v, d, rfl, d6.dr hD, hB, by omega, by omega, by omega, fun vb H7 s7 hvb => ⟨_, _, rfl, ?_⟩⟩
    have dd7 := (dd5.trans d6).same s7
    -- told one by one
    refine ⟨_, rfl, _, rfl, _, rfl, _, rfl, t, vb, flat d, lf, rt, rfl, dd7.2.2, hvb, fT, by omega, by omega, by omega, fun w1 e1 H8 d8 hw1 hb1 => ?_⟩
    have dd8 := dd7.trans d8
    refine ⟨_, rfl, _, rfl, t, vb, flat d, lf, rt, rfl, dd8.2.2, d8.dr hvb, fT, by omega, by omega, by omega, fun w2 e2 H9 d9 hw2 hb2 => ⟨by show 4 ≤ sizeLine; decide, fun lo hlo => ?_⟩⟩
    have dd9 := dd8.trans d9
    have ok1 := ok_bk hb1 hokd (by omega) (by omega)
    have ok2 := ok_bk hb2 hokd (by omega) (by omega)
    have s10 : Same H9 (upd H9 lo (.lst [v, vn, w1, w2])) := same_new hlo
    have e10 : upd H9 lo (.lst [v, vn, w1, w2]) lo = some (.lst [v, vn, w1, w2]) := upd_same
    generalize upd H9 lo (.lst [v, vn, w1, w2]) = H10 at s10 e10
    have d610 := ((DS.of d6.2.2 s7).trans (d8.trans d9)).same s10
    have d710 := (d8.trans d9).same s10
    have D1 := d610.dr (d6.dr hD)
    have D2 := d610.dr hDn
    have D3 := (d9.same s10).dr hw1
    have D4 := s10.dr hw2
    have all : ∀ (j : Nat) x, [v, vn, w1, w2][j]? = some x → ∃ dx, Dr K H10 dx x ∧ Ok dx lf rt := by
      intro j x hx
      match j, hx with
      | 0, hx => cases hx; exact ⟨_, D1, hokd⟩
      | 1, hx => cases hx; exact ⟨_, D2, hokn⟩
      | 2, hx => cases hx; exact ⟨_, D3, ok1⟩
      | 3, hx => cases hx; exact ⟨_, D4, ok2⟩
      | j + 4, hx => simp at hx
    have dd10 := dd9.same s10
    refine ⟨_, rfl, ⟨_, SqL.of e10⟩, ?_⟩
    refine for_list (xs := [v, vn, w1, w2]) (fun j σ H' => ∃ (y9 : Option V), σ = [some (.ref sc), some (.ref t.dk), some (.ref kn), some (.int (0 + (i : Int))), some (.int (lf : Int)), some (.int (rt : Int)), some v, some vn, some vb, y9, y10, y11, y12, y13, y14, y15, y16, y17, y18, y19, y20] ∧ Same H10 H') ⟨_, rfl, Same.refl _⟩ (fun j σ H' hj hP => ?_) (fun j x σ H' ex hP => ?_) (fun σ H' hP => ?_)
    · obtain ⟨y9, rfl, e⟩ := hP
      exact SqL.of (e _ _ e10)
    · obtain ⟨y9, rfl, e⟩ := hP
      obtain ⟨dx, hx, hok⟩ := all j x ex
      refine ⟨_, rfl, x, dx, lf, rt, rfl, e.dr hx, hok, fun H11 s11 => ⟨_, rfl, iteF ?_⟩⟩
      exact ⟨_, rfl, e.trans s11⟩
    · obtain ⟨y9, rfl, e⟩ := hP
      have hKn10 := ((((hKn.step ((d3.trans d4).trans d5) k1 k2).step d6 k1 k2).step (DS.of d6.2.2 s7) k1 k2).step d710 k1 k2).step (DS.of dd10.2.2 e) k1 k2
      have dd11 := dd10.same e
      have d7e := d710.same e
      refine ⟨_, rfl, .inl ⟨rfl, _, SqL.of hKn10.at_⟩, _, rfl, _, rfl, vb, flat d, rfl, d7e.dr hvb, flat_nf d, fB, by omega, by omega, by omega, fun H12 s12 => ⟨by show 2 ≤ sizeLine; decide, fun p hp => ?_⟩⟩
      have s13 : Same H12 (upd H12 p (.lst [v, .str (S (txt (flat d)))])) := same_new hp
      have e13 : upd H12 p (.lst [v, .str (S (txt (flat d)))]) p = some (.lst [v, .str (S (txt (flat d)))]) := upd_same
      have hpn := (dd11.same s12).none hp
      obtain ⟨p1, p2, p3⟩ := hk.ne hpn
      have hKn12 := hKn10.step (DS.of dd11.2.2 s12) k1 k2
      have p4 : p ≠ kn := fun z => by
        subst z
        rw [hKn12.at_] at hp
        cases hp
      generalize upd H12 p (.lst [v, .str (S (txt (flat d)))]) = H13 at s13 e13
      have s1013 := e.trans (s12.trans s13)
      have hKn13 := hKn12.step (DS.of (dd11.same s12).2.2 s13) k1 k2
      have dd13 := dd10.same s1013
      have hxl := hKn13.lk.len
      refine ⟨kn, xs, _, rfl, rfl, hKn13.at_, lt_size (by omega), ?_⟩
      have hKn14 := hKn13.add e13 (s1013.dr D1) hokd p1 p2 p4
      have dd14 : DS t H1 (upd H13 kn (.lst (xs ++ [.ref p]))) := dd13.mut hk hkn
      have kp14 : Kp H13 (upd H13 kn (.lst (xs ++ [.ref p]))) := kp_lst hKn13.at_
      generalize upd H13 kn (.lst (xs ++ [.ref p])) = H14 at hKn14 dd14 kp14
      have D1' := kp14.dr (s1013.dr D1)
      have D2' := kp14.dr (s1013.dr D2)
      refine ⟨_, rfl, _, rfl, v, vn, d, dn, lf, rt, lf, rt, rfl, D1', D2', hokd, hokn, fun H15 s15 => ⟨_, rfl, iteF ?_⟩⟩
      have dd15 := dd14.same s15
      have hKn15 := hKn14.step (DS.of dd14.2.2 s15) k1 k2
      refine ⟨_, rfl, _, rfl, _, rfl, _, rfl, _, _, rfl, rfl, t, i + 1, vint2 (by omega), by omega, by omega, dd15.2.2, fun j H16 hj d16 => ?_⟩
      have hKn16 := hKn15.step d16 k1 k2
      have hl16 := hKn16.lk.len
      simp only [List.length_append, List.length_cons, List.length_nil] at hl16
      have gj : (ds ++ [d])[j]? = some ((ds ++ [d])[j]'(by simp; omega)) := List.getElem?_eq_getElem _
      obtain ⟨vj, ej, pj, svj, rfl, z1, z2, _⟩ := hKn16.lk.get j _ gj
      obtain ⟨lj, rj, okj⟩ := hKn16.ok _ (List.mem_of_getElem? gj)
      refine ⟨_, _, _, _, rfl, rfl, SqL.of hKn16.at_, atI_nat ej, _, _, _, _, rfl, rfl, SqL.of z1, at_of (j := 0) rfl rfl, v, svj, d, _, lf, rt, lj, rj, rfl, (d16.dr (s15.dr D1')), z2, hokd, okj, fun H17 s17 => ⟨_, rfl, iteF ?_⟩⟩
      refine ⟨_, _, _, _, _, _, _, _, _, _, _, _, _, _, _, _, _, _, ds ++ [d], xs ++ [.ref p], rfl, (dd15.trans d16).same s17, hKn16.step (DS.of (dd15.trans d16).2.2 s17) k1 k2, by simp [hdl], fun x hx => ?_⟩
      rcases List.mem_append.mp hx with hx | hx
      · exact hds x hx
      · have : x = d := by simpa using hx
        subst this
        omega
  · obtain ⟨y3, y4, y5, y6, y7, y8, y9, y10, y11, y12, y13, y14, y15, y16, y17, y18, y19, y20, ds, xs, rfl, dd, hKn, hdl, hds⟩ := hP
    -- the ladders
    refine ⟨_, rfl, t, 10, rfl, by omega, by omega, dd.2.2, fun j H3 hj d3 => ⟨_, _, rfl, rfl, by show 3 ≤ sizeLine; decide, fun lo hlo => ?_⟩⟩
    have s4 := same_new (o := .lst [V.int 12, .int 11, .int (1 + (j : Int))]) hlo
    have e4 := upd_same (H := H3) (a := lo) (o := .lst [V.int 12, .int 11, .int (1 + (j : Int))])
    have hlon := (dd.trans d3).none hlo
    obtain ⟨n1, n2, n3⟩ := hk.ne hlon
    have dd4 := (dd.trans d3).same s4
    have hKn4 := (hKn.step d3 k1 k2).step (DS.of d3.2.2 s4) k1 k2
    refine ⟨_, rfl, ⟨_, SqL.of e4⟩, ?_⟩
    generalize upd H3 lo (.lst [V.int 12, .int 11, .int (1 + (j : Int))]) = H4 at s4 e4 dd4 hKn4
    refine for_list (xs := [V.int 12, .int 11, .int (1 + (j : Int))]) (fun i σ H' => ∃ (y10 : Option V), σ = [some (.ref sc), some (.ref t.dk), some (.ref kn), y3, y4, y5, y6, y7, y8, y9, y10, y11, y12, y13, y14, y15, y16, y17, y18, y19, y20] ∧ DS t H4 H') ⟨_, rfl, DS.refl dd4.2.2⟩ (fun i σ H' hi hP => ?_) (fun i x σ H' ex hP => ?_) (fun σ H' hP => ?_)
    · obtain ⟨y10, rfl, e⟩ := hP
      exact SqL.of (e.keep e4 n1 n2)
    · obtain ⟨y10, rfl, e⟩ := hP
      have hx : ∃ m : Nat, x = .int (m : Int) ∧ m ≤ 12 := by
        match i, ex with
        | 0, ex => cases ex; exact ⟨12, rfl, by omega⟩
        | 1, ex => cases ex; exact ⟨11, rfl, by omega⟩
        | 2, ex =>
          cases ex
          exact ⟨1 + j, by rw [show ((1 + j : Nat) : Int) = 1 + (j : Int) by omega], by omega⟩
        | i + 3, ex => simp at ex
      obtain ⟨m, rfl, hm⟩ := hx
      refine ⟨_, rfl, _, rfl, t, m, rfl, hm, e.2.2, fun v d r H5 d5 hD hT hr2 hd hz => ?_⟩
      refine ⟨v, d, 1, r, rfl, hD, ok_pc hT (by omega) (by omega) hd, fun H6 s6 => ⟨_, rfl, iteF ?_⟩⟩
      exact ⟨_, rfl, (e.trans d5).same s6⟩
    · obtain ⟨y10, rfl, e⟩ := hP
      have dd5 := dd4.trans e
      have hKn5 := hKn4.step e k1 k2
      clear e e4 s4 hKn4 dd4 hlo hlon n1 n2 n3 d3 hKn dd
      -- the small boxes
      refine ⟨false, rfl, fun ml ms H6 s6 hml eml hms => ⟨_, rfl, ⟨_, SqL.of eml⟩, ?_⟩⟩
      have hmln := dd5.none hml
      obtain ⟨n1, n2, n3⟩ := hk.ne hmln
      have dd6 := dd5.same s6
      have hKn6 := hKn5.step (DS.of dd5.2.2 s6) k1 k2
      refine for_list (xs := ms) (fun i σ H' => ∃ (y11 y12 y13 y14 : Option V), σ = [some (.ref sc), some (.ref t.dk), some (.ref kn), y3, y4, y5, y6, y7, y8, y9, y10, y11, y12, y13, y14, y15, y16, y17, y18, y19, y20] ∧ DS t H6 H') ⟨_, _, _, _, rfl, DS.refl dd6.2.2⟩ (fun i σ H' hi hP => ?_) (fun i x σ H' ex hP => ?_) (fun σ H' hP => ?_)
      · obtain ⟨y11, y12, y13, y14, rfl, e⟩ := hP
        exact SqL.of (e.keep eml n1 n2)
      · obtain ⟨y11, y12, y13, y14, rfl, e⟩ := hP
        obtain ⟨i', ei, p, rfl, hp⟩ := hms.back ex
        have hi14 := menu_lt false i' (List.mem_of_getElem? ei)
        have hp' := e.2.1.tup hp
        refine ⟨p, _, rfl, hp', rfl, _, _, rfl, _, _, rfl, _, _, rfl, rfl, ?_⟩
        dsimp only [tSeq]
        refine te_by (te := tIf _ _ _) (fun x H8 => ∃ k : Nat, BxOk i' k ∧ DS t H' H8 ∧ Dr K H8 (.bx i' k) x) (fun R' kk => ?_) (fun x H8 hx => ?_)
        · refine ⟨_, rfl, by show 2 ≤ sizeLine; decide, fun tt htt => ?_⟩
          have s7 : Same H' (upd H' tt (.tup [.str "times", .str "untimes"])) := same_new htt
          refine ⟨tt, _, rfl, .inr (SqT.of upd_same), rfl, rfl, _, rfl, ?_⟩
          rw [if_neg (by decide), show inV (V.str (word i')) [V.str "times", V.str "untimes"] = isnum i' from num_in i' hi14]
          generalize upd H' tt (.tup [.str "times", .str "untimes"]) = H7 at s7
          have d7 := DS.of e.2.2 s7
          cases hn : isnum i' with
          | true =>
            refine iteT ⟨_, rfl, _, rfl, t, 7, rfl, by omega, by omega, d7.2.2, fun k H8 hk8 d8 => ⟨by show 2 ≤ sizeLine; decide, fun bp hbp => ?_⟩⟩
            have s9 := same_new (o := .tup [.str (word i'), .int (k : Int)]) hbp
            exact kk _ _ ⟨k, ⟨hi14, by omega, fun z => by rw [hn] at z; cases z⟩, (d7.trans d8).same s9, dr_bxk hn rfl (SqT.of upd_same)⟩
          | false =>
            refine iteF ⟨_, rfl, by show 1 ≤ sizeLine; decide, fun bp hbp => ?_⟩
            have s9 := same_new (o := .tup [.str (word i')]) hbp
            exact kk _ _ ⟨0, bok hi14, d7.same s9, dr_bx0 hn rfl (SqT.of upd_same)⟩
        obtain ⟨k, ok, d8, hD⟩ := hx
        have hT := tp_bx ok
        have e1 := eL_le i'
        have e2 := eR_le i'
        have ok1 : Ok (.bx i' k) (eL i') (eR i') := ok_pc hT (by omega) (by simp only [sz]; omega) (by simp only [dep]; omega)
        have hT2 := Tp_t1 (Tp_f2 hT Tp_E0 (by omega) (by omega))
        have ok2 : Ok (.br true [.br false [.bx i' k, E0D]]) (eL i') (eR i') := ok_pc hT2 (by omega) (by simp only [sz, szs]; omega) (by simp only [dep, deps]; omega)
        dsimp only [gName]
        refine ⟨_, rfl, x, .bx i' k, eL i', eR i', rfl, hD, ok1, fun H9 s9 => ⟨_, rfl, iteF ?_⟩⟩
        refine ⟨_, rfl, Nat.zero_le _, fun q1 hq1 => ⟨by show 2 ≤ sizeLine; decide, fun q2 hq2 => ⟨by show 2 ≤ sizeLine; decide, fun q3 hq3 => ⟨by show 2 ≤ sizeLine; decide, fun q4 hq4 => ⟨by show 1 ≤ sizeLine; decide, fun q5 hq5 => ⟨by show 2 ≤ sizeLine; decide, fun q6 hq6 => ?_⟩⟩⟩⟩⟩⟩
        have u1 := same_new (o := .tup []) hq1
        have u2 := same_new (o := .tup [.str ("beside" : Str), .ref q1]) hq2
        have u3 := same_new (o := .tup [x, .ref q2]) hq3
        have u4 := same_new (o := .tup [.str ("beside" : Str), .ref q3]) hq4
        have u5 := same_new (o := .tup [V.ref q4]) hq5
        have u6 := same_new (o := .tup [.str ("behind" : Str), .ref q5]) hq6
        have f2 : Dr K _ E0D (.ref q2) := dr_empty (K := K) (SqT.of upd_same) (u2.tup (SqT.of upd_same))
        have u13 := u1.trans (u2.trans u3)
        have f4 : Dr K _ (.br false [.bx i' k, E0D]) (.ref q4) := dr_br (K := K) (SqT.of upd_same) (u4.tup (SqT.of upd_same)) (drs2 ((u13.trans u4).dr (s9.dr hD)) ((u3.trans u4).dr f2))
        have f6 : Dr K _ (.br true [.br false [.bx i' k, E0D]]) (.ref q6) := dr_br (K := K) (SqT.of upd_same) (u6.tup (SqT.of upd_same)) (Drs.one ((u5.trans u6).dr f4))
        refine ⟨_, _, eL i', eR i', rfl, f6, ok2, fun H10 s10 => ⟨_, rfl, iteF ?_⟩⟩
        exact ⟨_, _, _, _, rfl, ((e.trans d8).same s9).same (u13.trans (u4.trans (u5.trans (u6.trans s10))))⟩
      · obtain ⟨y11, y12, y13, y14, rfl, e⟩ := hP
        have dd7 := dd6.trans e
        have hKn7 := hKn6.step e k1 k2
        clear e hKn6 dd6 n1 n2 n3 hmln hms eml s6 hml hKn5 dd5
        -- the empty ones
        refine ⟨Nat.zero_le _, fun q1 hq1 => ⟨by show 2 ≤ sizeLine; decide, fun q2 hq2 => ?_⟩⟩
        have u1 := same_new (o := .tup []) hq1
        have u2 := same_new (o := .tup [.str ("beside" : Str), .ref q1]) hq2
        have f2 : Dr K _ E0D (.ref q2) := dr_empty (K := K) (SqT.of upd_same) (u2.tup (SqT.of upd_same))
        refine ⟨_, rfl, _, rfl, _, rfl, by show 2 ≤ sizeLine; decide, fun q3 hq3 => ⟨by show 2 ≤ sizeLine; decide, fun q4 hq4 => ⟨_, rfl, _, rfl, by show 1 ≤ sizeLine; decide, fun q5 hq5 => ⟨by show 2 ≤ sizeLine; decide, fun q6 hq6 => ⟨by show 2 ≤ sizeLine; decide, fun q7 hq7 => ⟨by show 2 ≤ sizeLine; decide, fun q8 hq8 => ⟨by show 3 ≤ sizeLine; decide, fun lo hlo => ?_⟩⟩⟩⟩⟩⟩⟩
        have u3 := same_new (o := .tup [V.ref q2, .ref q2]) hq3
        have u4 := same_new (o := .tup [.str ("behind" : Str), .ref q3]) hq4
        have u5 := same_new (o := .tup [V.ref q2]) hq5
        have u6 := same_new (o := .tup [.str ("behind" : Str), .ref q5]) hq6
        have u7 := same_new (o := .tup [V.ref q2, .ref q6]) hq7
        have u8 := same_new (o := .tup [.str ("beside" : Str), .ref q7]) hq8
        have u9 := same_new (o := .lst [V.ref q2, .ref q4, .ref q8]) hlo
        have e9 := upd_new (o := .lst [V.ref q2, .ref q4, .ref q8]) hlo
        have f4 : Dr K _ (.br true [E0D, E0D]) (.ref q4) := dr_br (K := K) (SqT.of upd_same) (u4.tup (SqT.of upd_same)) (drs2 ((u3.trans u4).dr f2) ((u3.trans u4).dr f2))
        have f6 : Dr K _ (.br true [E0D]) (.ref q6) := dr_br (K := K) (SqT.of upd_same) (u6.tup (SqT.of upd_same)) (Drs.one ((u3.trans (u4.trans (u5.trans u6))).dr f2))
        have f8 : Dr K _ (.br false [E0D, .br true [E0D]]) (.ref q8) := dr_br (K := K) (SqT.of upd_same) (u8.tup (SqT.of upd_same)) (drs2 ((u3.trans (u4.trans (u5.trans (u6.trans (u7.trans u8))))).dr f2) ((u7.trans u8).dr f6))
        have g2 := (u3.trans (u4.trans (u5.trans (u6.trans (u7.trans (u8.trans u9)))))).dr f2
        have g4 := (u5.trans (u6.trans (u7.trans (u8.trans u9)))).dr f4
        have g8 := u9.dr f8
        have uAll := u1.trans (u2.trans (u3.trans (u4.trans (u5.trans (u6.trans (u7.trans (u8.trans u9)))))))
        have all : ∀ {HH : Hp}, Dr K HH E0D (.ref q2) → Dr K HH (.br true [E0D, E0D]) (.ref q4) → Dr K HH (.br false [E0D, .br true [E0D]]) (.ref q8) → ∀ (j : Nat) x, [V.ref q2, .ref q4, .ref q8][j]? = some x → ∃ dx, Dr K HH dx x ∧ Ok dx 0 0 := by
          intro HH g2 g4 g8 j x hx
          match j, hx with
          | 0, hx => cases hx; exact ⟨_, g2, ok_pc Tp_E0 (by omega) (by decide) (by decide)⟩
          | 1, hx => cases hx; exact ⟨_, g4, ok_pc (Tp_t2 Tp_E0 Tp_E0) (by omega) (by decide) (by decide)⟩
          | 2, hx => cases hx; exact ⟨_, g8, ok_pc (Tp_f2 Tp_E0 (Tp_t1 Tp_E0) (by omega) (by omega)) (by omega) (by decide) (by decide)⟩
          | j + 3, hx => simp at hx
        refine ⟨_, rfl, ⟨_, SqL.of e9⟩, ?_⟩
        have dd8 := dd7.same uAll
        have hKn8 := hKn7.step (DS.of dd7.2.2 uAll) k1 k2
        have all := all g2 g4 g8
        clear u1 u2 u3 u4 u5 u6 u7 u8 u9 uAll f2 f4 f6 f8 g2 g4 g8 hKn7 dd7
        have k8 := dd8.2.2
        refine for_list (xs := [V.ref q2, .ref q4, .ref q8]) (fun i σ H9 => ∃ (y6 : Option V), σ = [some (.ref sc), some (.ref t.dk), some (.ref kn), y3, y4, y5, y6, y7, some (.ref q2), y9, y10, y11, y12, y13, y14, y15, y16, y17, y18, y19, y20] ∧ Same _ H9) ⟨_, rfl, Same.refl _⟩ (fun i σ H9 hi hP => ?_) (fun i x σ H9 ex hP => ?_) (fun σ H9 hP => ?_)
        · obtain ⟨y6, rfl, e⟩ := hP
          exact SqL.of (e _ _ e9)
        · obtain ⟨y6, rfl, e⟩ := hP
          obtain ⟨dx, hx, hok⟩ := all i x ex
          refine ⟨_, rfl, x, dx, 0, 0, rfl, e.dr hx, hok, fun H11 s11 => ⟨_, rfl, iteF ?_⟩⟩
          exact ⟨_, rfl, e.trans s11⟩
        · obtain ⟨y6, rfl, e⟩ := hP
          have dd9 := dd8.same e
          have hKn9 := hKn8.step (DS.of k8 e) k1 k2
          clear e hKn8 dd8 all e9 hlo k8
          -- many in a row
          refine ⟨_, rfl, t, 3, rfl, by omega, by omega, dd9.2.2, fun wd H10 hwd d10 => ⟨_, _, rfl, rfl, ?_⟩⟩
          refine ⟨_, rfl, t, 4, rfl, by omega, by omega, d10.2.2, fun mn H11 hmn d11 => ⟨_, _, rfl, rfl, ?_⟩⟩
          refine ⟨_, _, rfl, ?_⟩
          have dd11 := dd9.trans (d10.trans d11)
          have hKn11 := hKn9.step (d10.trans d11) k1 k2
          refine ⟨_, rfl, _, rfl, _, rfl, _, rfl, _, _, rfl, rfl, .inl (by omega), _, _, rfl, rfl, ?_⟩
          refine ⟨t, 1 + wd, 1 + wd, 1, 12 - 2 * (1 + wd), false, vint6 (by omega) (by omega) (by omega) (by omega), by omega, by omega, by omega, dd11.2.2, by omega, fun v d H12 d12 hD hT hz hd => ?_⟩
          have hz : sz d ≤ 73 := hz
          have dd12 := dd11.trans d12
          have hKn12 := hKn11.step d12 k1 k2
          refine ⟨_, rfl, by show 1 ≤ sizeLine; decide, fun tv htv => ?_⟩
          have s13 : Same H12 (upd H12 tv (.tup [v])) := same_new htv
          have e13 : upd H12 tv (.tup [v]) tv = some (.tup [v]) := upd_same
          generalize upd H12 tv (.tup [v]) = H13 at s13 e13
          refine ⟨_, rfl, ?_⟩
          have em : (2 + (mn : Int)) = ((2 + mn : Nat) : Int) := by omega
          simp only [em]
          refine mulT_ok (SqT.of e13) (by omega) (fun wp H14 s14 hwp => ?_)
          refine ⟨by show 2 ≤ sizeLine; decide, fun t15 ht15 => ?_⟩
          have s15 := same_new (o := .tup [.str ("behind" : Str), .ref wp]) ht15
          have s1315 := s13.trans (s14.trans s15)
          obtain ⟨m1, m2⟩ := m_rep d (2 + mn)
          have hTm : Tp (.br true (List.replicate (2 + mn) d)) (1 + wd) (1 + wd) := by
            have z := Tp_le hT
            simp only [Tp]
            refine ⟨fun y => ?_, Ch_rep hT _, z.1, z.2⟩
            have := congrArg List.length y
            simp at this
          have hszm : sz (.br true (List.replicate (2 + mn) d)) ≤ 400 := by
            simp only [sz, m1]
            have : (2 + mn) * sz d ≤ 5 * sz d := Nat.mul_le_mul_right _ (by omega)
            omega
          refine ⟨_, .br true (List.replicate (2 + mn) d), 1 + wd, 1 + wd, rfl, dr_br (SqT.of upd_same) (s15.tup hwp) (drs_rep (s1315.dr hD) _), ok_pc hTm (by omega) hszm (by simp only [dep]; omega), fun H16 s16 => ⟨_, rfl, iteF ?_⟩⟩
          have dd16 := (dd12.same s1315).same s16
          have hKn16 := hKn12.step (DS.of dd12.2.2 (s1315.trans s16)) k1 k2
          clear hKn12 dd12 d12 hKn11 dd11 d10 d11 hKn9 dd9 s16 s1315
          -- one box, many times
          refine ⟨_, rfl, by show 2 ≤ sizeLine; decide, fun lo hlo => ?_⟩
          have s17 : Same H16 (upd H16 lo (.lst [.str ("times" : Str), .str ("untimes" : Str)])) := same_new hlo
          have e17 : upd H16 lo (.lst [.str ("times" : Str), .str ("untimes" : Str)]) lo = some (.lst [.str ("times" : Str), .str ("untimes" : Str)]) := upd_same
          obtain ⟨n1, n2, n3⟩ := hk.ne (dd16.none hlo)
          generalize upd H16 lo (.lst [.str ("times" : Str), .str ("untimes" : Str)]) = H17 at s17 e17
          have dd17 := dd16.same s17
          have hKn17 := hKn16.step (DS.of dd16.2.2 s17) k1 k2
          refine ⟨t, lo, _, rfl, dd17.2.2, e17, by simp, by show 2 ≤ 1000; decide, n1, n2, fun u H18 hu d18 => ?_⟩
          have hu : ∃ i, i < 14 ∧ isnum i = true ∧ u = .str (word i) := by
            have : u = .str ("times" : Str) ∨ u = .str ("untimes" : Str) := by simpa using hu
            rcases this with rfl | rfl
            · exact ⟨6, by decide, rfl, by rw [w_un.2.2.2.2.2.1]⟩
            · exact ⟨11, by decide, rfl, by rw [w_un.2.2.2.2.2.2]⟩
          obtain ⟨i, hi14, hin, rfl⟩ := hu
          refine ⟨_, rfl, t, 7, rfl, by omega, by omega, d18.2.2, fun k H19 hk19 d19 => ⟨by show 2 ≤ sizeLine; decide, fun tl htl => ?_⟩⟩
          have s20 : Same H19 (upd H19 tl (.tup [.str (word i), .int (k : Int)])) := same_new htl
          have e20 : SqT K (upd H19 tl (.tup [.str (word i), .int (k : Int)])) tl [.str (word i), .int (k : Int)] := SqT.of upd_same
          generalize upd H19 tl (.tup [.str (word i), .int (k : Int)]) = H20 at s20 e20
          have dd20 := (dd17.trans (d18.trans d19)).same s20
          have hKn20 := (hKn17.step (d18.trans d19) k1 k2).step (DS.of (d18.trans d19).2.2 s20) k1 k2
          refine ⟨_, rfl, t, 2, rfl, by omega, by omega, dd20.2.2, fun j H21 hj d21 => ⟨_, _, rfl, rfl, ?_⟩⟩
          refine ⟨_, _, rfl, ?_⟩
          have dd21 := dd20.trans d21
          have hKn21 := hKn20.step d21 k1 k2
          have e21 := d21.2.1.tup e20
          have ok : BxOk i k := ⟨hi14, by omega, fun z => by rw [hin] at z; cases z⟩
          have hbv : bv i k = [.str (word i), .int (k : Int)] := by unfold bv; rw [hin]; rfl
          have hDb : Dr K H21 (.bx i k) (.ref tl) := dr_bxk hin rfl e21
          have hlog : ((k : Int)).natAbs.log2 < 1920 := by
            rw [Int.natAbs_natCast]
            have := Nat.log2_le_self k
            omega
          have b6 := bt6 i hi14 k (by omega) hin
          obtain ⟨b7, b8⟩ := bt7 i hi14 k (by omega)
          have bl := btxt_len ok
          clear hKn20 dd20 d21 hKn17 dd17 hKn16 dd16
          have em : (399 + (j : Int)) = ((399 + j : Nat) : Int) := by omega
          generalize hn : 399 + j = n at em
          have hn2 : 399 ≤ n ∧ n ≤ 400 := by omega
          refine ⟨⟨_, rfl⟩, _, rfl, _, _, _, _, rfl, rfl, e21, rfl, .inl ⟨_, rfl, _, _, rfl, rfl, le_size (by omega), _, rfl, _, _, _, _, rfl, rfl, e21, rfl, .inr ⟨_, rfl, hlog, _, _, rfl, rfl, le_size (by omega), by show 1 ≤ sizeLine; decide, fun l1 hl1 => ?_⟩⟩⟩
          have s22 := same_new (o := .lst [V.str (word i ++ ((" " : String) : Str) ++ ((toString (k : Int) : String) : Str))]) hl1
          have e22 := upd_new (o := .lst [V.str (word i ++ ((" " : String) : Str) ++ ((toString (k : Int) : String) : Str))]) hl1
          refine ⟨_, rfl, l1, _, _, rfl, rfl, e22, by omega, by omega, (by rw [em, Int.toNat_natCast]; exact Nat.le_trans (by simp only [List.length_cons, List.length_nil]; omega : _ ≤ 100000) (by decide)), fun l2 hl2 => ?_⟩
          have erep : (List.replicate ((399 + (j : Int))).toNat [V.str (word i ++ ((" " : String) : Str) ++ ((toString (k : Int) : String) : Str))]).flatten = ((List.replicate n (btxt i k)).map S).map V.str := by
            rw [em, Int.toNat_natCast, rep_flat, b6, List.map_replicate, List.map_replicate]
          have s23 := same_new (o := .lst (List.replicate ((399 + (j : Int))).toNat [V.str (word i ++ ((" " : String) : Str) ++ ((toString (k : Int) : String) : Str))]).flatten) hl2
          have e23 := upd_new (o := .lst (List.replicate ((399 + (j : Int))).toNat [V.str (word i ++ ((" " : String) : Str) ++ ((toString (k : Int) : String) : Str))]).flatten) hl2
          have s223 := s22.trans s23
          generalize upd (upd H21 l1 (.lst [V.str (word i ++ ((" " : String) : Str) ++ ((toString (k : Int) : String) : Str))])) l2 (.lst (List.replicate ((399 + (j : Int))).toNat [V.str (word i ++ ((" " : String) : Str) ++ ((toString (k : Int) : String) : Str))]).flatten) = H23 at s223 e23 ⊢
          rw [erep] at e23
          refine ⟨_, _, _, rfl, rfl, .inl (SqL.of e23), ?_, ?_⟩
          · rw [sum_len, List.map_replicate, List.sum_replicate_nat, List.length_map, List.length_replicate]
            have e1 : ((" ; " : String) : Str).length = 3 := rfl
            rw [e1]
            have : n * (btxt i k).length ≤ 400 * 9 := Nat.mul_le_mul hn2.2 bl.1
            omega
          rw [gl_join, show ((" ; " : String) : Str) = S (sep true) by decide +kernel, join_S]
          have dd23 := dd21.same s223
          have hKn23 := hKn21.step (DS.of dd21.2.2 s223) k1 k2
          have hDb23 := s223.dr hDb
          refine ⟨_, rfl, by show 1 ≤ sizeLine; decide, fun tv2 htv2 => ?_⟩
          have s24 : Same H23 (upd H23 tv2 (.tup [.ref tl])) := same_new htv2
          have e24 : upd H23 tv2 (.tup [.ref tl]) tv2 = some (.tup [.ref tl]) := upd_same
          generalize upd H23 tv2 (.tup [.ref tl]) = H24 at s24 e24
          refine ⟨_, rfl, ?_⟩
          simp only [em]
          refine mulT_ok (SqT.of e24) (by omega) (fun wp2 H25 s25 hwp2 => ?_)
          refine ⟨by show 2 ≤ sizeLine; decide, fun t26 ht26 => ?_⟩
          have s26 := same_new (o := .tup [.str ("behind" : Str), .ref wp2]) ht26
          have s2426 := s24.trans (s25.trans s26)
          have hBr : BxAs (List.replicate n (.bx i k)) := bxas_rep (d := .bx i k) ok n
          obtain ⟨m3, m4⟩ := m_rep (.bx i k) n
          have hNr : Nf (.br true (List.replicate n (.bx i k))) := by
            simp only [Nf, List.length_replicate]
            exact ⟨by omega, nfs_rep true i k n⟩
          have hszr : sz (.br true (List.replicate n (.bx i k))) ≤ 500 := by
            simp only [sz] at m3 ⊢
            omega
          refine ⟨_, .br true (List.replicate n (.bx i k)), rfl, dr_br (SqT.of upd_same) (s26.tup hwp2) (drs_rep (s2426.dr hDb23) _), hBr, by omega, by simp only [dep] at m4 ⊢; omega, fun H27 s27 => ?_⟩
          rw [flat_of hNr]
          have etx : txt (.br true (List.replicate n (.bx i k))) = joinL (sep true) (List.replicate n (btxt i k)) := by
            have : (List.replicate n (D.bx i k)).isEmpty = false := by
              cases n with
              | zero => omega
              | succ n => rfl
            simp only [txt, this, ptxts_rep]
            rfl
          have tl1 := txt_len _ (show BxA (.br true (List.replicate n (.bx i k))) from hBr)
          have tl2 := txt_lt _ (show BxA (.br true (List.replicate n (.bx i k))) from hBr)
          rw [etx] at tl1 tl2 ⊢
          have shx := shw_txt tl2 (by omega)
          generalize joinL (sep true) (List.replicate n (btxt i k)) = X at shx ⊢
          refine ⟨_, _, rfl, .str _, shx.a, shx.b, shx.c', shx.e', ?_⟩
          refine ⟨_, rfl, _, _, rfl, .str _, shx.a, shx.b, shx.c', shx.e', rfl, _, rfl, ?_⟩
          rw [decide_eq_true rfl]
          refine iteF ?_
          have dd27 := (dd23.same s2426).same s27
          have hKn27 := hKn23.step (DS.of dd23.2.2 (s2426.trans s27)) k1 k2
          clear hKn23 dd23 hKn21 dd21 s27 s2426 hBr
          -- what was kept
          have hlen := hKn27.lk.len
          have hdl5 : ds.length = 5 := hdl
          refine ⟨_, rfl, _, rfl, ⟨_, SqL.of hKn27.at_⟩, fun o1 ho1 => ?_⟩
          have o1n := dd27.none ho1
          obtain ⟨p1, p2, p3⟩ := hk.ne o1n
          refine lc_list (xs := xs) (fun i H' => Same H27 H' ∧ H' o1 = some (.lst ((((ds.take i).map fun d => txt (flat d)).map S).map V.str))) ⟨same_new ho1, by simp [upd_same]⟩ (fun i H' hi hP => SqL.of (hP.1 _ _ hKn27.at_)) (fun i x H' ex hP => ?_) (fun H' hP => ?_)
          · obtain ⟨e, eo⟩ := hP
            obtain ⟨d', ed, p, sv, rfl, z1, z2, _⟩ := hKn27.lk.back ex
            obtain ⟨l', r', okd⟩ := hKn27.ok d' (List.mem_of_getElem? ed)
            have k4 := (List.getElem?_eq_some_iff.mp ed).1
            refine ⟨p, _, rfl, SqL.of (e _ _ z1), rfl, _, _, rfl, _, _, rfl, rfl, rfl, tyes ⟨_, rfl, sv, d', rfl, e.dr z2, Tp_BxA okd.tp, okd.sz, by have := okd.dp; omega, fun H28 s28 => ?_⟩⟩
            refine ⟨_, s28 _ _ eo, lt_size (by simp [List.length_take]; omega), (e.trans s28).mut ho1, ?_⟩
            rw [upd_same, List.take_add_one, ed]
            simp
          · obtain ⟨e, eo⟩ := hP
            rw [List.take_of_length_le (by omega)] at eo
            have shk : Shw (.list (((ds.map fun d => txt (flat d)).map S).map PyData.str)) := shw_known (fun x hx => by
              obtain ⟨d', hd', rfl⟩ := List.mem_map.mp hx
              obtain ⟨l', r', okd⟩ := hKn27.ok d' hd'
              have hB' := bxa_flat (Tp_BxA okd.tp)
              have y1 := txt_len _ hB'
              have y2 := sz_flat d'
              have y3 := hds d' hd'
              exact ⟨txt_lt _ hB', by omega⟩) (by simp [hdl5])
            refine ⟨_, _, rfl, .lst (SqL.of eo) (dps _ _ _), shk.a, shk.b, shk.c', shk.e', ?_⟩
            have hKn28 := hKn27.step (DS.of dd27.2.2 e) k1 k2
            have dd28 := dd27.same e
            refine ⟨_, rfl, _, rfl, ⟨_, SqL.of hKn28.at_⟩, fun o2 ho2 => ?_⟩
            refine lc_list (xs := xs) (fun i H2 => Same H' H2 ∧ H2 o2 = some (.lst ((((ds.take i).map fun d => txt (flat d)).map S).map V.str))) ⟨same_new ho2, by simp [upd_same]⟩ (fun i H2 hi hP => SqL.of (hP.1 _ _ hKn28.at_)) (fun i x H2 ex hP => ?_) (fun H2 hP => ?_)
            · obtain ⟨e2, eo2⟩ := hP
              obtain ⟨d', ed, p, sv, rfl, z1, z2, _⟩ := hKn28.lk.back ex
              have k4 := (List.getElem?_eq_some_iff.mp ed).1
              refine ⟨p, _, rfl, SqL.of (e2 _ _ z1), rfl, _, _, rfl, _, _, rfl, rfl, rfl, tyes ⟨_, rfl, _, eo2, lt_size (by simp [List.length_take]; omega), e2.mut ho2, ?_⟩⟩
              rw [upd_same, List.take_add_one, ed]
              simp
            · obtain ⟨e2, eo2⟩ := hP
              rw [List.take_of_length_le (by omega)] at eo2
              refine ⟨_, _, rfl, .lst (SqL.of eo2) (dps _ _ _), shk.a, shk.b, shk.c', shk.e', rfl, ?_⟩
              rw [decide_eq_true rfl]
              exact q _
end K9

set_option maxHeartbeats 0
/-! the head: what the top leaves -/
namespace K9
open PySem PySem.Spec L2 PyProof.Rows
def tupB (K : PySem.W.Frag) (a : Addr) (vs : List V) : Bool := match K.lookup a with
  | some ⟨.type c, _, .seq its _, _⟩ => decide (c = "tuple") && (decide (its.size ≤ 1000) && He.relAll vs its.toList)
  | _ => false
theorem tupB_ok {K : PySem.W.Frag} {a : Addr} {vs : List V} (h : tupB K a vs = true) (H : Hp) : SqT K H a vs := by
  unfold tupB at h
  split at h
  · next c od its n osl e =>
    simp only [Bool.and_eq_true, decide_eq_true_eq] at h
    obtain ⟨rfl, h2, h3⟩ := h
    exact .inr ⟨_, its, n, e, rfl, rfl, Nat.le_trans h2 (by decide), He.relAll_ok h3⟩
  · cases h
def refAt (K : PySem.W.Frag) (a : Addr) (i : Nat) : Addr := match K.lookup a with
  | some ⟨_, _, .seq its _, _⟩ => (match its.toList[i]? with
    | some (.ref p) => p
    | _ => 0)
  | _ => 0
def valAt (K : PySem.W.Frag) (a : Addr) (x : Str) : Addr := match PySem.W.nsIn K a x with
  | some (some (.ref p)) => p
  | _ => 0
def emptyB (K : PySem.W.Frag) : Bool := tupB K (aE K) [.str (kw false), .ref (refAt K (aE K) 1)] && tupB K (refAt K (aE K) 1) []
def endB (K : PySem.W.Frag) (i : Nat) : Bool := He.eqO (PySem.W.nsIn K (aB K) (word i)) (some (some (.ref (valAt K (aB K) (word i))))) && tupB K (valAt K (aB K) (word i)) [.int (eL i : Int), .int (eR i : Int)]
def keysB (K : PySem.W.Frag) : Bool := match K.lookup (aB K) with
  | some ⟨.type c, none, .dict es _, sl⟩ => decide (c = "dict") && (sl.isEmpty && (!(aB K == sysModules) && decide (es.toList.map litKey = (List.range 14).map fun i => some (word i))))
  | _ => false
def strB (K : PySem.W.Frag) (a : Addr) (x z : Str) : Bool := match PySem.W.nsIn K a x with
  | some (some u) => He.relB (.str z) u
  | _ => false
def exB (K : PySem.W.Frag) : Bool := emptyB K && ((List.range 14).all (endB K) && (keysB K && ([true, false].all fun b => He.eqO (PySem.W.nsIn K (aB K) (kw b)) (some none) && (strB K (aS K) (kw b) (S (sep b)) && strB K (aO K) (kw b) (kw (!b))))))
def dD (i : Nat) (x : Str) : He.DefD := ⟨(x, none), x, x, C8.fnArgs (top i), C8.fnBody (top i), C8.fnScope (top i), [], []⟩

def fnL : List He.DefD := [dD 13 "is_small", dD 14 "is_bracket", dD 15 "form_error", dD 16 "ends_error", dD 17 "drawing_error", dD 18 "ends_of", dD 19 "boxes_of", dD 20 "flattened", dD 24 "box_text", dD 25 "flat_text", dD 26 "drawing_text", dD 27 "all_boxes", dD 28 "common", dD 29 "box_at", dD 30 "closed_at", dD 31 "read_as", dD 32 "parse_drawing", dD 34 "_law_deck", dD 35 "_law_draw", dD 36 "_law_pick", dD 37 "_law_order", dD 38 "_law_menu", dD 39 "_law_level", dD 40 "_law_loose", dD 41 "_law_piece", dD 42 "_law_ends", dD 43 "_law_sides", dD 45 "_law_ways", dD 46 "_law_put", dD 47 "_law_bare", dD 48 "_law_bracketed", dD 49 "_law_ladder", dD 50 "_law_text", dD 51 "_law_is_told", dD 52 "_law_near", dD 53 "_law_is_apart", dD 54 "law"]
def fa1 : List He.Fa := [.glo "EMPTY", .glo "BOX_ENDS", .glo "SIGNS", .glo "OTHER_WORD", .glo "is_small", .glo "is_bracket", .glo "form_error", .glo "ends_error", .glo "drawing_error", .glo "ends_of", .glo "boxes_of", .glo "flattened", .glo "box_text", .glo "flat_text", .glo "drawing_text", .glo "all_boxes", .glo "common", .glo "box_at", .glo "closed_at", .glo "read_as", .glo "parse_drawing", .glo "_law_deck", .glo "_law_draw", .glo "_law_pick", .glo "_law_order"]
def fa2 : List He.Fa := [.glo "_law_menu", .glo "_law_level", .glo "_law_loose", .glo "_law_piece", .glo "_law_ends", .glo "_law_sides", .glo "_law_ways", .glo "_law_put", .glo "_law_bare", .glo "_law_bracketed", .glo "_law_ladder", .glo "_law_text", .glo "_law_is_told", .glo "_law_near", .glo "_law_is_apart", .glo "law"]
def fa3 : List He.Fa := [.free "len", .free "isinstance", .free "any", .free "sum", .free "max", .free "min", .free "abs", .free "repr", .free "int", .free "str", .free "bool", .free "tuple", .free "list", .free "range", .free "enumerate", .int "MAX_ENDS" 8, .int "MAX_TIMES" 6, .int "MAX_PARTS" 400, .int "MAX_DEPTH" 12, .int "MAX_BOXES" 400, .int "MAX_WIDE" 16]
def faL : List He.Fa := fa1 ++ (fa2 ++ fa3)
def tsL : List He.Tab := [(fun K => aB K, (List.range 14).map word), (fun K => aS K, [kw true, kw false]), (fun K => aO K, [kw true, kw false])]
abbrev RR : PySem.W.OpenRow := PySem.W.OpenLaw.row PySem.Challenge.rw_boxlaws_k09_whole_texts_there_and_back
abbrev hkL : PySem.W.Hook := He.hookX 4 faL fnL tsL [] exB
def obL (s : PySem.W.SharedT) : He.AlX := He.obsX 4 faL fnL tsL [] exB (HandSHeadRun.getT s)
theorem obL_eq (s : PySem.W.SharedT) : obL s = hkL.obs s.abs := He.obsX_eq (HandSHeadRun.getT_eq s)
def nm1 : List Str := ["MAX_ENDS", "MAX_TIMES", "MAX_PARTS", "MAX_DEPTH", "MAX_BOXES", "MAX_WIDE", "BoxError", "BadText", "BadDrawing", "EMPTY", "BOX_ENDS", "SIGNS", "OTHER_WORD", "is_small", "is_bracket", "form_error", "ends_error", "drawing_error", "ends_of", "boxes_of", "flattened", "box_text", "flat_text", "drawing_text", "all_boxes"]
def nm2 : List Str := ["common", "box_at", "closed_at", "read_as", "parse_drawing", "_law_deck", "_law_draw", "_law_pick", "_law_order", "_law_menu", "_law_level", "_law_loose", "_law_piece", "_law_ends", "_law_sides", "_law_boxes", "_law_ways", "_law_put", "_law_bare", "_law_bracketed", "_law_ladder", "_law_text", "_law_is_told", "_law_near", "_law_is_apart"]
def nmL : List Str := nm1 ++ nm2
theorem runL (w : World) : HandSHeadRun.RunEq RR (PySem.W.view RR.prog [54]) hkL obL 4000 nmL w := by
  refine PySem.W.byRow2 "special-get-raises" (P := fun w => HandSHeadRun.RunEq RR (PySem.W.view RR.prog [54]) hkL obL 4000 nmL w) (fun w => ?_) (fun w => ?_) w
  · intro os
    kernel_rfl
  · intro os
    kernel_rfl
end K9

set_option maxHeartbeats 4000000
/-! the module behind its top: the facts, the defs -/
namespace K9
open PySem PySem.Spec L2 PyProof.Rows
theorem d0_of {K : PySem.W.Frag} {mg : Str → Option Value} {x : Str} {st : Stmt} {ps : List Str} (F : ∃ fd, FunD K x x (C8.fnArgs st) (C8.fnBody st) (C8.fnScope st) [] [] (He.ga K x) fd) (hm : mg x = some (.ref (He.ga K x)))
    (hb : ∀ (kV doc pm : Value) (an : Option Addr) (cdv ct : Value) (us : List Value), us.length = ps.length → bindArgs (PySem.W.fnOf x x (C8.fnArgs st) (C8.fnBody st) (C8.fnScope st) .none kV doc pm an cdv ct) ⟨us, []⟩ = pure (ps.zip us)) : D0 K mg x st ps := by
  obtain ⟨fd, F⟩ := F
  have b := FunD.bindsN (ps := ps) F hb
  obtain ⟨oc, od, dV, kV, doc, pm, an, cdv, ct, osl, e, lk, hcd, _, _⟩ := F.ex
  exact ⟨_, fd, ⟨⟨oc, od, dV, kV, doc, pm, an, cdv, ct, osl, e, lk, hcd⟩, hm, F.kp⟩, b⟩
theorem d0k_of {K : PySem.W.Frag} {mg : Str → Option Value} {x y : Str} {st : Stmt} (F : ∃ fd, FunD K x x (C8.fnArgs st) (C8.fnBody st) (C8.fnScope st) [] [] (He.ga K x) fd) (hm : mg x = some (.ref (He.ga K x)))
    (hb : ∀ (kV doc pm : Value) (an : Option Addr) (cdv ct : Value) (us : List Value), us.length = 1 → bindArgs (PySem.W.fnOf x x (C8.fnArgs st) (C8.fnBody st) (C8.fnScope st) .none kV doc pm an cdv ct) ⟨us, []⟩ = pure ([y].zip us))
    (hk : ∀ (kV doc pm : Value) (an : Option Addr) (cdv ct : Value) (u : Value), bindArgs (PySem.W.fnOf x x (C8.fnArgs st) (C8.fnBody st) (C8.fnScope st) .none kV doc pm an cdv ct) ⟨[], [(y, u)]⟩ = pure [(y, u)]) : D0K K mg x st y := by
  obtain ⟨fd, F⟩ := F
  have b := FunD.bindsN (ps := [y]) F hb
  obtain ⟨oc, od, dV, kV, doc, pm, an, cdv, ct, osl, e, lk, hcd, hD, _⟩ := F.ex
  refine ⟨_, fd, ⟨⟨oc, od, dV, kV, doc, pm, an, cdv, ct, osl, e, lk, hcd⟩, hm, F.kp⟩, b, fun u => ?_⟩
  rcases hD with ⟨_, rfl⟩ | ⟨z, _⟩
  · rw [e]
    exact hk _ _ _ _ _ _ u
  · exact absurd rfl z
section
variable {w : World} {K : PySem.W.Frag} {h : Heap} {mg : Str → Option Value}
theorem glob_int (X : K.In h) (G : h.Ns mainGlobals mg) {x : Str} {i : Int} (c : (He.Fa.int x i).ok K = true) : Glob mg x (.int i) := by
  obtain ⟨t, e⟩ := He.int_ok X G c
  exact ⟨_, e, t, rfl⟩
theorem glob_ref (X : K.In h) (G : h.Ns mainGlobals mg) {x : Str} (c : (He.Fa.glo x).ok K = true) : Glob mg x (.ref (He.ga K x)) := ⟨_, He.glo_ok X G c, rfl⟩
theorem strB_ok {a : Addr} {x z : Str} (hh : strB K a x z = true) : ∃ u, PySem.W.nsIn K a x = some (some u) ∧ RelV (.str z) u := by
  unfold strB at hh
  split at hh
  · next u e => exact ⟨u, e, He.relB_ok hh⟩
  · cases hh
theorem kdct_of {a : Addr} {x : Str} {v : V} (d : ∃ es n, KDict K w a es n) (hh : ∃ u, PySem.W.nsIn K a x = some (some u) ∧ RelV v u) : KDct K w a x v := by
  obtain ⟨es, n, d⟩ := d
  obtain ⟨u, e, r⟩ := hh
  exact ⟨es, n, u, d.at_, d.lit, e, r⟩
theorem kdict_at {a : Addr} (d : ∃ es n, KDict K w a es n) : KDict K w a (dEs K a) (dN K a) := by
  obtain ⟨es, n, d⟩ := d
  have e1 : dEs K a = es := by
    unfold dEs
    rw [d.at_]
  have e2 : dN K a = n := by
    unfold dN
    rw [d.at_]
  rw [e1, e2]
  exact d
theorem keys_of (hh : keysB K = true) : KKeys K (aB K) ((List.range 14).map word) := by
  unfold keysB at hh
  split at hh
  · next c es n sl e =>
    simp only [Bool.and_eq_true, decide_eq_true_eq, Bool.not_eq_true'] at hh
    obtain ⟨rfl, h2, h3, h4⟩ := hh
    exact ⟨_, es, n, h3, e, ⟨rfl, rfl, Array.isEmpty_iff.mp h2⟩, rfl, by rw [h4, List.map_map]; rfl⟩
  · cases hh
theorem tp0_of (X : K.In h) (G : h.Ns mainGlobals mg) (c : He.SaysX faL fnL tsL [] exB w h K) : Tp0 w K mg := by
  have m := c.more
  unfold exB at m
  simp only [Bool.and_eq_true] at m
  obtain ⟨m1, m2, m3, m4⟩ := m
  have tb := c.t.tab 0 (t := (fun K => aB K, (List.range 14).map word)) rfl
  have ts := c.t.tab 1 (t := (fun K => aS K, [kw true, kw false])) rfl
  have to := c.t.tab 2 (t := (fun K => aO K, [kw true, kw false])) rfl
  have mb : ∀ b : Bool, PySem.W.nsIn K (aB K) (kw b) = some none ∧ strB K (aS K) (kw b) (S (sep b)) = true ∧ strB K (aO K) (kw b) (kw (!b)) = true := by
    intro b
    have z := List.all_eq_true.mp m4 b (by cases b <;> simp)
    simp only [Bool.and_eq_true] at z
    exact ⟨He.eqO_ok z.1, z.2.1, z.2.2⟩
  refine {
    len := He.free_ok X G (c.t.d.fact 41 (f := .free "len") rfl)
    isinstance := He.free_ok X G (c.t.d.fact 42 (f := .free "isinstance") rfl)
    any := He.free_ok X G (c.t.d.fact 43 (f := .free "any") rfl)
    sum := He.free_ok X G (c.t.d.fact 44 (f := .free "sum") rfl)
    max := He.free_ok X G (c.t.d.fact 45 (f := .free "max") rfl)
    min := He.free_ok X G (c.t.d.fact 46 (f := .free "min") rfl)
    abs := He.free_ok X G (c.t.d.fact 47 (f := .free "abs") rfl)
    repr := He.free_ok X G (c.t.d.fact 48 (f := .free "repr") rfl)
    int := He.free_ok X G (c.t.d.fact 49 (f := .free "int") rfl)
    str := He.free_ok X G (c.t.d.fact 50 (f := .free "str") rfl)
    bool := He.free_ok X G (c.t.d.fact 51 (f := .free "bool") rfl)
    tuple := He.free_ok X G (c.t.d.fact 52 (f := .free "tuple") rfl)
    list := He.free_ok X G (c.t.d.fact 53 (f := .free "list") rfl)
    range := He.free_ok X G (c.t.d.fact 54 (f := .free "range") rfl)
    enumerate := He.free_ok X G (c.t.d.fact 55 (f := .free "enumerate") rfl)
    MAX_ENDS := glob_int X G (c.t.d.fact 56 (f := .int "MAX_ENDS" 8) rfl)
    MAX_TIMES := glob_int X G (c.t.d.fact 57 (f := .int "MAX_TIMES" 6) rfl)
    MAX_PARTS := glob_int X G (c.t.d.fact 58 (f := .int "MAX_PARTS" 400) rfl)
    MAX_DEPTH := glob_int X G (c.t.d.fact 59 (f := .int "MAX_DEPTH" 12) rfl)
    MAX_BOXES := glob_int X G (c.t.d.fact 60 (f := .int "MAX_BOXES" 400) rfl)
    MAX_WIDE := glob_int X G (c.t.d.fact 61 (f := .int "MAX_WIDE" 16) rfl)
    EMPTY := glob_ref X G (c.t.d.fact 0 (f := .glo "EMPTY") rfl)
    BOX_ENDS := glob_ref X G (c.t.d.fact 1 (f := .glo "BOX_ENDS") rfl)
    SIGNS := glob_ref X G (c.t.d.fact 2 (f := .glo "SIGNS") rfl)
    OTHER_WORD := glob_ref X G (c.t.d.fact 3 (f := .glo "OTHER_WORD") rfl)
    empty := ?_
    BOX_ENDS_at := kdict_at tb
    ends := fun i hi => ?_
    noend := fun b => (mb b).1
    keys := keys_of m3
    sign := fun b => kdct_of ts (strB_ok (mb b).2.1)
    other := fun b => kdct_of to (strB_ok (mb b).2.2) }
  · unfold emptyB at m1
    rw [Bool.and_eq_true] at m1
    exact ⟨_, tupB_ok m1.1, tupB_ok m1.2⟩
  · have z := List.all_eq_true.mp m2 i (List.mem_range.mpr hi)
    unfold endB at z
    rw [Bool.and_eq_true] at z
    exact ⟨_, kdct_of tb ⟨_, He.eqO_ok z.1, rfl⟩, tupB_ok z.2⟩
theorem d_is_small (X : K.In h) (G : h.Ns mainGlobals mg) (c : He.SaysX faL fnL tsL [] exB w h K) : D0 K mg "is_small" s_is_small ["value"] := d0_of (c.t.d.def_ 0 (d := dD 13 "is_small") rfl) (He.glo_ok X G (c.t.d.fact 4 (f := .glo "is_small") rfl)) (fun _ _ _ _ _ _ us hl => match us, hl with | [_], _ => rfl)
theorem d_is_bracket (X : K.In h) (G : h.Ns mainGlobals mg) (c : He.SaysX faL fnL tsL [] exB w h K) : D0 K mg "is_bracket" s_is_bracket ["value"] := d0_of (c.t.d.def_ 1 (d := dD 14 "is_bracket") rfl) (He.glo_ok X G (c.t.d.fact 5 (f := .glo "is_bracket") rfl)) (fun _ _ _ _ _ _ us hl => match us, hl with | [_], _ => rfl)
theorem d_form_error (X : K.In h) (G : h.Ns mainGlobals mg) (c : He.SaysX faL fnL tsL [] exB w h K) : D0 K mg "form_error" s_form_error ["value", "way"] := d0_of (c.t.d.def_ 2 (d := dD 15 "form_error") rfl) (He.glo_ok X G (c.t.d.fact 6 (f := .glo "form_error") rfl)) (fun _ _ _ _ _ _ us hl => match us, hl with | [_, _], _ => rfl)
theorem d_ends_error (X : K.In h) (G : h.Ns mainGlobals mg) (c : He.SaysX faL fnL tsL [] exB w h K) : D0 K mg "ends_error" s_ends_error ["drawing", "way"] := d0_of (c.t.d.def_ 3 (d := dD 16 "ends_error") rfl) (He.glo_ok X G (c.t.d.fact 7 (f := .glo "ends_error") rfl)) (fun _ _ _ _ _ _ us hl => match us, hl with | [_, _], _ => rfl)
theorem d_drawing_error (X : K.In h) (G : h.Ns mainGlobals mg) (c : He.SaysX faL fnL tsL [] exB w h K) : D0 K mg "drawing_error" s_drawing_error ["value"] := d0_of (c.t.d.def_ 4 (d := dD 17 "drawing_error") rfl) (He.glo_ok X G (c.t.d.fact 8 (f := .glo "drawing_error") rfl)) (fun _ _ _ _ _ _ us hl => match us, hl with | [_], _ => rfl)
theorem d_ends_of (X : K.In h) (G : h.Ns mainGlobals mg) (c : He.SaysX faL fnL tsL [] exB w h K) : D0 K mg "ends_of" s_ends_of ["drawing"] := d0_of (c.t.d.def_ 5 (d := dD 18 "ends_of") rfl) (He.glo_ok X G (c.t.d.fact 9 (f := .glo "ends_of") rfl)) (fun _ _ _ _ _ _ us hl => match us, hl with | [_], _ => rfl)
theorem d_boxes_of (X : K.In h) (G : h.Ns mainGlobals mg) (c : He.SaysX faL fnL tsL [] exB w h K) : D0 K mg "boxes_of" s_boxes_of ["drawing"] := d0_of (c.t.d.def_ 6 (d := dD 19 "boxes_of") rfl) (He.glo_ok X G (c.t.d.fact 10 (f := .glo "boxes_of") rfl)) (fun _ _ _ _ _ _ us hl => match us, hl with | [_], _ => rfl)
theorem d_flattened (X : K.In h) (G : h.Ns mainGlobals mg) (c : He.SaysX faL fnL tsL [] exB w h K) : D0 K mg "flattened" s_flattened ["drawing"] := d0_of (c.t.d.def_ 7 (d := dD 20 "flattened") rfl) (He.glo_ok X G (c.t.d.fact 11 (f := .glo "flattened") rfl)) (fun _ _ _ _ _ _ us hl => match us, hl with | [_], _ => rfl)
theorem d_box_text (X : K.In h) (G : h.Ns mainGlobals mg) (c : He.SaysX faL fnL tsL [] exB w h K) : D0 K mg "box_text" s_box_text ["box"] := d0_of (c.t.d.def_ 8 (d := dD 24 "box_text") rfl) (He.glo_ok X G (c.t.d.fact 12 (f := .glo "box_text") rfl)) (fun _ _ _ _ _ _ us hl => match us, hl with | [_], _ => rfl)
theorem d_flat_text (X : K.In h) (G : h.Ns mainGlobals mg) (c : He.SaysX faL fnL tsL [] exB w h K) : D0 K mg "flat_text" s_flat_text ["drawing"] := d0_of (c.t.d.def_ 9 (d := dD 25 "flat_text") rfl) (He.glo_ok X G (c.t.d.fact 13 (f := .glo "flat_text") rfl)) (fun _ _ _ _ _ _ us hl => match us, hl with | [_], _ => rfl)
theorem d_drawing_text (X : K.In h) (G : h.Ns mainGlobals mg) (c : He.SaysX faL fnL tsL [] exB w h K) : D0K K mg "drawing_text" s_drawing_text "drawing" := d0k_of (c.t.d.def_ 10 (d := dD 26 "drawing_text") rfl) (He.glo_ok X G (c.t.d.fact 14 (f := .glo "drawing_text") rfl)) (fun _ _ _ _ _ _ us hl => match us, hl with | [_], _ => rfl) (fun _ _ _ _ _ _ _ => rfl)
theorem d_all_boxes (X : K.In h) (G : h.Ns mainGlobals mg) (c : He.SaysX faL fnL tsL [] exB w h K) : D0 K mg "all_boxes" s_all_boxes [] := d0_of (c.t.d.def_ 11 (d := dD 27 "all_boxes") rfl) (He.glo_ok X G (c.t.d.fact 15 (f := .glo "all_boxes") rfl)) (fun _ _ _ _ _ _ us hl => match us, hl with | [], _ => rfl)
theorem d_common (X : K.In h) (G : h.Ns mainGlobals mg) (c : He.SaysX faL fnL tsL [] exB w h K) : D0 K mg "common" s_common ["text", "start", "goal"] := d0_of (c.t.d.def_ 12 (d := dD 28 "common") rfl) (He.glo_ok X G (c.t.d.fact 16 (f := .glo "common") rfl)) (fun _ _ _ _ _ _ us hl => match us, hl with | [_, _, _], _ => rfl)
theorem d_box_at (X : K.In h) (G : h.Ns mainGlobals mg) (c : He.SaysX faL fnL tsL [] exB w h K) : D0 K mg "box_at" s_box_at ["text", "start", "boxes"] := d0_of (c.t.d.def_ 13 (d := dD 29 "box_at") rfl) (He.glo_ok X G (c.t.d.fact 17 (f := .glo "box_at") rfl)) (fun _ _ _ _ _ _ us hl => match us, hl with | [_, _, _], _ => rfl)
theorem d_closed_at (X : K.In h) (G : h.Ns mainGlobals mg) (c : He.SaysX faL fnL tsL [] exB w h K) : D0 K mg "closed_at" s_closed_at ["text", "start", "opened"] := d0_of (c.t.d.def_ 14 (d := dD 30 "closed_at") rfl) (He.glo_ok X G (c.t.d.fact 18 (f := .glo "closed_at") rfl)) (fun _ _ _ _ _ _ us hl => match us, hl with | [_, _, _], _ => rfl)
theorem d_read_as (X : K.In h) (G : h.Ns mainGlobals mg) (c : He.SaysX faL fnL tsL [] exB w h K) : D0 K mg "read_as" s_read_as ["text", "outer"] := d0_of (c.t.d.def_ 15 (d := dD 31 "read_as") rfl) (He.glo_ok X G (c.t.d.fact 19 (f := .glo "read_as") rfl)) (fun _ _ _ _ _ _ us hl => match us, hl with | [_, _], _ => rfl)
theorem d_parse_drawing (X : K.In h) (G : h.Ns mainGlobals mg) (c : He.SaysX faL fnL tsL [] exB w h K) : D0K K mg "parse_drawing" s_parse_drawing "value" := d0k_of (c.t.d.def_ 16 (d := dD 32 "parse_drawing") rfl) (He.glo_ok X G (c.t.d.fact 20 (f := .glo "parse_drawing") rfl)) (fun _ _ _ _ _ _ us hl => match us, hl with | [_], _ => rfl) (fun _ _ _ _ _ _ _ => rfl)
theorem d_law_deck (X : K.In h) (G : h.Ns mainGlobals mg) (c : He.SaysX faL fnL tsL [] exB w h K) : D0 K mg "_law_deck" s_law_deck ["_law_script"] := d0_of (c.t.d.def_ 17 (d := dD 34 "_law_deck") rfl) (He.glo_ok X G (c.t.d.fact 21 (f := .glo "_law_deck") rfl)) (fun _ _ _ _ _ _ us hl => match us, hl with | [_], _ => rfl)
theorem d_law_draw (X : K.In h) (G : h.Ns mainGlobals mg) (c : He.SaysX faL fnL tsL [] exB w h K) : D0 K mg "_law_draw" s_law_draw ["_law_deck_here", "_law_size"] := d0_of (c.t.d.def_ 18 (d := dD 35 "_law_draw") rfl) (He.glo_ok X G (c.t.d.fact 22 (f := .glo "_law_draw") rfl)) (fun _ _ _ _ _ _ us hl => match us, hl with | [_, _], _ => rfl)
theorem d_law_pick (X : K.In h) (G : h.Ns mainGlobals mg) (c : He.SaysX faL fnL tsL [] exB w h K) : D0 K mg "_law_pick" s_law_pick ["_law_deck_here", "_law_items"] := d0_of (c.t.d.def_ 19 (d := dD 36 "_law_pick") rfl) (He.glo_ok X G (c.t.d.fact 23 (f := .glo "_law_pick") rfl)) (fun _ _ _ _ _ _ us hl => match us, hl with | [_, _], _ => rfl)
theorem d_law_order (X : K.In h) (G : h.Ns mainGlobals mg) (c : He.SaysX faL fnL tsL [] exB w h K) : D0 K mg "_law_order" s_law_order ["_law_deck_here", "_law_items"] := d0_of (c.t.d.def_ 20 (d := dD 37 "_law_order") rfl) (He.glo_ok X G (c.t.d.fact 24 (f := .glo "_law_order") rfl)) (fun _ _ _ _ _ _ us hl => match us, hl with | [_, _], _ => rfl)
theorem d_law_menu (X : K.In h) (G : h.Ns mainGlobals mg) (c : He.SaysX faL fnL tsL [] exB w h K) : D0 K mg "_law_menu" s_law_menu ["_law_is_plain"] := d0_of (c.t.d.def_ 21 (d := dD 38 "_law_menu") rfl) (He.glo_ok X G (c.t.d.fact 25 (f := .glo "_law_menu") rfl)) (fun _ _ _ _ _ _ us hl => match us, hl with | [_], _ => rfl)
theorem d_law_level (X : K.In h) (G : h.Ns mainGlobals mg) (c : He.SaysX faL fnL tsL [] exB w h K) : D0 K mg "_law_level" s_law_level ["_law_deck_here", "_law_left", "_law_right", "_law_is_plain"] := d0_of (c.t.d.def_ 22 (d := dD 39 "_law_level") rfl) (He.glo_ok X G (c.t.d.fact 26 (f := .glo "_law_level") rfl)) (fun _ _ _ _ _ _ us hl => match us, hl with | [_, _, _, _], _ => rfl)
theorem d_law_loose (X : K.In h) (G : h.Ns mainGlobals mg) (c : He.SaysX faL fnL tsL [] exB w h K) : D0 K mg "_law_loose" s_law_loose ["_law_deck_here", "_law_sketch"] := d0_of (c.t.d.def_ 23 (d := dD 40 "_law_loose") rfl) (He.glo_ok X G (c.t.d.fact 27 (f := .glo "_law_loose") rfl)) (fun _ _ _ _ _ _ us hl => match us, hl with | [_, _], _ => rfl)
theorem d_law_piece (X : K.In h) (G : h.Ns mainGlobals mg) (c : He.SaysX faL fnL tsL [] exB w h K) : D0 K mg "_law_piece" s_law_piece ["_law_deck_here", "_law_left", "_law_right", "_law_deep", "_law_spare", "_law_is_plain"] := d0_of (c.t.d.def_ 24 (d := dD 41 "_law_piece") rfl) (He.glo_ok X G (c.t.d.fact 28 (f := .glo "_law_piece") rfl)) (fun _ _ _ _ _ _ us hl => match us, hl with | [_, _, _, _, _, _], _ => rfl)
theorem d_law_ends (X : K.In h) (G : h.Ns mainGlobals mg) (c : He.SaysX faL fnL tsL [] exB w h K) : D0 K mg "_law_ends" s_law_ends ["_law_box"] := d0_of (c.t.d.def_ 25 (d := dD 42 "_law_ends") rfl) (He.glo_ok X G (c.t.d.fact 29 (f := .glo "_law_ends") rfl)) (fun _ _ _ _ _ _ us hl => match us, hl with | [_], _ => rfl)
theorem d_law_sides (X : K.In h) (G : h.Ns mainGlobals mg) (c : He.SaysX faL fnL tsL [] exB w h K) : D0 K mg "_law_sides" s_law_sides ["_law_sketch"] := d0_of (c.t.d.def_ 26 (d := dD 43 "_law_sides") rfl) (He.glo_ok X G (c.t.d.fact 30 (f := .glo "_law_sides") rfl)) (fun _ _ _ _ _ _ us hl => match us, hl with | [_], _ => rfl)
theorem d_law_ways (X : K.In h) (G : h.Ns mainGlobals mg) (c : He.SaysX faL fnL tsL [] exB w h K) : D0 K mg "_law_ways" s_law_ways ["_law_sketch", "_law_path"] := d0_of (c.t.d.def_ 27 (d := dD 45 "_law_ways") rfl) (He.glo_ok X G (c.t.d.fact 31 (f := .glo "_law_ways") rfl)) (fun _ _ _ _ _ _ us hl => match us, hl with | [_, _], _ => rfl)
theorem d_law_put (X : K.In h) (G : h.Ns mainGlobals mg) (c : He.SaysX faL fnL tsL [] exB w h K) : D0 K mg "_law_put" s_law_put ["_law_sketch", "_law_path", "_law_fresh"] := d0_of (c.t.d.def_ 28 (d := dD 46 "_law_put") rfl) (He.glo_ok X G (c.t.d.fact 32 (f := .glo "_law_put") rfl)) (fun _ _ _ _ _ _ us hl => match us, hl with | [_, _, _], _ => rfl)
theorem d_law_bare (X : K.In h) (G : h.Ns mainGlobals mg) (c : He.SaysX faL fnL tsL [] exB w h K) : D0 K mg "_law_bare" s_law_bare ["_law_sketch"] := d0_of (c.t.d.def_ 29 (d := dD 47 "_law_bare") rfl) (He.glo_ok X G (c.t.d.fact 33 (f := .glo "_law_bare") rfl)) (fun _ _ _ _ _ _ us hl => match us, hl with | [_], _ => rfl)
theorem d_law_bracketed (X : K.In h) (G : h.Ns mainGlobals mg) (c : He.SaysX faL fnL tsL [] exB w h K) : D0 K mg "_law_bracketed" s_law_bracketed ["_law_deck_here", "_law_sketch"] := d0_of (c.t.d.def_ 30 (d := dD 48 "_law_bracketed") rfl) (He.glo_ok X G (c.t.d.fact 34 (f := .glo "_law_bracketed") rfl)) (fun _ _ _ _ _ _ us hl => match us, hl with | [_, _], _ => rfl)
theorem d_law_ladder (X : K.In h) (G : h.Ns mainGlobals mg) (c : He.SaysX faL fnL tsL [] exB w h K) : D0 K mg "_law_ladder" s_law_ladder ["_law_deck_here", "_law_many"] := d0_of (c.t.d.def_ 31 (d := dD 49 "_law_ladder") rfl) (He.glo_ok X G (c.t.d.fact 35 (f := .glo "_law_ladder") rfl)) (fun _ _ _ _ _ _ us hl => match us, hl with | [_, _], _ => rfl)
theorem d_law_text (X : K.In h) (G : h.Ns mainGlobals mg) (c : He.SaysX faL fnL tsL [] exB w h K) : D0 K mg "_law_text" s_law_text ["_law_sketch"] := d0_of (c.t.d.def_ 32 (d := dD 50 "_law_text") rfl) (He.glo_ok X G (c.t.d.fact 36 (f := .glo "_law_text") rfl)) (fun _ _ _ _ _ _ us hl => match us, hl with | [_], _ => rfl)
theorem d_law_is_told (X : K.In h) (G : h.Ns mainGlobals mg) (c : He.SaysX faL fnL tsL [] exB w h K) : D0 K mg "_law_is_told" s_law_is_told ["_law_sketch"] := d0_of (c.t.d.def_ 33 (d := dD 51 "_law_is_told") rfl) (He.glo_ok X G (c.t.d.fact 37 (f := .glo "_law_is_told") rfl)) (fun _ _ _ _ _ _ us hl => match us, hl with | [_], _ => rfl)
theorem d_law_near (X : K.In h) (G : h.Ns mainGlobals mg) (c : He.SaysX faL fnL tsL [] exB w h K) : D0 K mg "_law_near" s_law_near ["_law_deck_here", "_law_sketch"] := d0_of (c.t.d.def_ 34 (d := dD 52 "_law_near") rfl) (He.glo_ok X G (c.t.d.fact 38 (f := .glo "_law_near") rfl)) (fun _ _ _ _ _ _ us hl => match us, hl with | [_, _], _ => rfl)
theorem d_law_is_apart (X : K.In h) (G : h.Ns mainGlobals mg) (c : He.SaysX faL fnL tsL [] exB w h K) : D0 K mg "_law_is_apart" s_law_is_apart ["_law_one", "_law_two"] := d0_of (c.t.d.def_ 35 (d := dD 53 "_law_is_apart") rfl) (He.glo_ok X G (c.t.d.fact 39 (f := .glo "_law_is_apart") rfl)) (fun _ _ _ _ _ _ us hl => match us, hl with | [_, _], _ => rfl)
theorem d_law (X : K.In h) (G : h.Ns mainGlobals mg) (c : He.SaysX faL fnL tsL [] exB w h K) : D0 K mg "law" s_law ["_law_script"] := d0_of (c.t.d.def_ 36 (d := dD 54 "law") rfl) (He.glo_ok X G (c.t.d.fact 40 (f := .glo "law") rfl)) (fun _ _ _ _ _ _ us hl => match us, hl with | [_], _ => rfl)
end
end K9

set_option maxHeartbeats 4000000
/-! the law called behind the top, where nothing stands around it -/
namespace K9
open PySem PySem.Spec L2 PyProof.Rows
section
variable {P : Program} {w : World} {K : PySem.W.Frag} {mg : Str → Option Value} {base hh : Heap}
/-- every def's promise, put together -/
theorem all_of (X : K.In hh) (G : hh.Ns mainGlobals mg) (c : He.SaysX faL fnL tsL [] exB w hh K) : CalG P w K mg base 60 "law" (spLaw K) := by
  have T : Tp0 w K mg := tp0_of X G c
  have small := ok_small (P := P) (base := base) T (d_is_small X G c)
  have brack := ok_bracket (P := P) (base := base) T (d_is_bracket X G c)
  have form := ok_form (P := P) (base := base) T (d_form_error X G c) small brack
  have boxes := ok_boxes (P := P) (base := base) T (d_boxes_of X G c) small
  have ends := ok_ends (P := P) (base := base) T (d_ends_of X G c) small
  have eErr := ok_endsErr (P := P) (base := base) T (d_ends_error X G c) small ends
  have dErr := ok_dErr (P := P) (base := base) T (d_drawing_error X G c) form boxes eErr ends
  have flats := ok_flattened (P := P) (base := base) T (d_flattened X G c) small
  have bText := ok_box_text (P := P) (base := base) T (d_box_text X G c)
  have fText := ok_flat_text (P := P) (base := base) T (d_flat_text X G c) small bText
  have dText := ok_drawing_text (P := P) (base := base) T (d_drawing_text X G c) flats fText
  have alls := ok_all_boxes (P := P) (base := base) T (d_all_boxes X G c)
  have comm := ok_common (P := P) (base := base) T (d_common X G c)
  have bAt := ok_box_at (P := P) (base := base) T (d_box_at X G c) bText comm
  have cAt := ok_closed_at (P := P) (base := base) T (d_closed_at X G c)
  have rAs := ok_read_as (P := P) (base := base) T (d_read_as X G c) small alls bAt cAt comm
  have parse := ok_parse_drawing (P := P) (base := base) T (d_parse_drawing X G c) rAs comm dErr
  have draw := ok_law_draw (P := P) (base := base) T (d_law_draw X G c)
  have deck := ok_law_deck (P := P) (base := base) T (d_law_deck X G c)
  have pick := ok_law_pick (P := P) (base := base) T (d_law_pick X G c) draw
  have order := ok_law_order (P := P) (base := base) T (d_law_order X G c) draw
  have menu := ok_law_menu (P := P) (base := base) T (d_law_menu X G c)
  have level := ok_law_level (P := P) (base := base) T (d_law_level X G c) draw pick menu
  have loose := ok_law_loose (P := P) (base := base) T (d_law_loose X G c) draw
  have piece := ok_law_piece (P := P) (base := base) T (d_law_piece X G c) draw level loose
  have lEnds := ok_law_ends (P := P) (base := base) T (d_law_ends X G c)
  have sides := ok_law_sides (P := P) (base := base) T (d_law_sides X G c) lEnds
  have ways := ok_law_ways (P := P) (base := base) T (d_law_ways X G c)
  have puts := ok_law_put (P := P) (base := base) T (d_law_put X G c)
  have bare := ok_law_bare (P := P) (base := base) T (d_law_bare X G c)
  have near := ok_law_near (P := P) (base := base) T (d_law_near X G c) draw pick order level ways sides puts dErr
  have brkd := ok_law_bracketed (P := P) (base := base) T (d_law_bracketed X G c) draw pick (sides 38)
  have ladder := ok_law_ladder (P := P) (base := base) T (d_law_ladder X G c) draw pick
  have text := ok_law_text (P := P) (base := base) T (d_law_text X G c)
  have told := ok_law_is_told (P := P) (base := base) T (d_law_is_told X G c) flats bare text dText.1 dText.2 parse.1 parse.2 dErr
  have apart := ok_law_is_apart (P := P) (base := base) T (d_law_is_apart X G c) flats bare dText.1
  exact ok_law T (d_law X G c) deck draw pick menu piece near bare brkd text ladder told apart dText.1
end
/-- the promise of such a def, asked of a script that stands behind the top -/
theorem asked {P : Program} {w : World} {K : PySem.W.Frag} {mg mb : Str → Option Value} {k : Nat} {f at_ : Addr} {x : Str} {sp : Sp} {st : Shared} {us : List Value} {is : List Int}
    (kin : K.In st.heap) (nm : st.heap.Ns mainGlobals mg) (nb : st.heap.Ns builtinsNs mb) (own : ∀ y : Str, y ≠ "__name__" → mb y = bootBuiltins y) (nolim : st.heap.NoLimit) (nogen : st.gens = #[])
    (obj : st.heap.get? at_ = some { cls := .type "list", data := .seq us.toArray }) (are : IntsAre us is) (short : is.length ≤ sizeLine) (room : Room k callerA) (bare : callerA.guards = some [])
    (C : ∀ base : Heap, K.In base → base.Ns mainGlobals mg → CalG P w K mg base k x sp) (hm : mg x = some (.ref f))
    (ask : ∀ Hq : Hp, SqL K Hq at_ (is.map V.int) → sp [.ref at_] Hq (fun z _ => z = .bl true) fun _ _ _ => False) :
    codeAny (model P w) callerA (.call (.ref f) ⟨[.ref at_], []⟩) (fun r s2 => r = .ok (.ret (.bool true)) ∧ OldK st.heap s2.heap ∧ s2.os = st.os ∧ AllBare s2.gens) st := by
  have vals := vals_ints are
  have lens := are.length
  have main : ∀ Hq : Hp, (∀ p u, Hq p = some u → p = at_ ∧ K.lookup at_ = none ∧ ∃ o l, u = .frz o (.lst l)) → SqL K Hq at_ (is.map V.int) → HOk P w Hq st.heap →
      codeAny (model P w) callerA (.call (.ref f) ⟨[.ref at_], []⟩) (fun r s2 => r = .ok (.ret (.bool true)) ∧ OldK st.heap s2.heap ∧ s2.os = st.os ∧ AllBare s2.gens) st := by
    intro Hq one seq hok
    have lower : ∀ {p : Addr} {o : Obj}, st.heap.get? p = some o → Hq p = none → (hidT st.heap Hq).get? p = some o := fun a b => hidT_get a b
    have noDict : ∀ {p : Addr} {o : Obj} {es : Array DictEntry} {n : Nat}, st.heap.get? p = some o → o.data = .dict es n → Hq p = none := by
      intro p o es n e d
      cases c : Hq p with
      | none => rfl
      | some u =>
        obtain ⟨rfl, _, _⟩ := one p u c
        rw [obj] at e
        cases e
        cases d
    have down : ∀ {p : Addr} {m : Str → Option Value}, st.heap.Ns p m → (hidT st.heap Hq).Ns p m := by
      rintro p m ⟨o, es, n, e, d, r⟩
      exact ⟨o, es, n, lower e (noDict e d), d, r⟩
    have kin2 : K.In (hidT st.heap Hq) := by
      intro p o e
      refine lower (kin p o e) ?_
      cases c : Hq p with
      | none => rfl
      | some u =>
        obtain ⟨rfl, z, _⟩ := one p u c
        rw [e] at z
        cases z
    obtain ⟨lm, l1, l2⟩ := nolim
    have md : Mod K mg (hidT st.heap Hq) := ⟨kin2, down nm, ⟨mb, down nb, own⟩, ⟨lm, down l1, l2⟩⟩
    have env : Env0 P w K mg (hidT st.heap Hq) callerA [] st Hq := ⟨rfl, md, fun p o e => of_hidT e, Nat.le_of_eq (hidT_size _ _), trivial, fun p hp => (by cases hp), hok, .of_eq nogen⟩
    obtain ⟨f', fd, ps, F, hm', _, bd⟩ := (C _ kin2 (down nm)).ex
    rw [hm] at hm'
    cases hm'
    have asks := ask Hq seq
    have lp : ([.ref at_] : List Value).length = ps.length := F.len _ _ _ _ asks
    have bd' := bd st [.ref at_] kin (by rw [List.append_nil]; exact lp)
    rw [List.append_nil] at bd'
    refine codeAny_mono (F.run callerA [] st Hq ⟨[.ref at_], []⟩ [.ref at_] [.ref at_] _ _ room bare env bd' (.cons rfl .nil) asks) fun r s2 res => ?_
    cases r with
    | error e => exact (show False from res).elim
    | ok fl =>
      cases fl with
      | next => exact (show False from res).elim
      | brk => exact (show False from res).elim
      | cont => exact (show False from res).elim
      | ret v =>
        obtain ⟨z, H2, os2, bare2, und, hok2, rel, ans⟩ := res
        have ans : z = .bl true := ans
        subst ans
        have rel : v = Value.bool true := rel
        subst rel
        refine ⟨rfl, OldK.of_keep fun p o e => ?_, os2, bare2⟩
        cases c : Hq p with
        | none => exact und.keep p o e c (fun y => by cases y) (by simp)
        | some u =>
          obtain ⟨_, _, ob, l, rfl⟩ := one p u c
          obtain ⟨e1, _⟩ := hok p _ c
          obtain ⟨e2, _⟩ := hok2 p _ (und.frzs p ob _ c)
          rw [e] at e1
          cases e1
          exact e2
  cases lk : K.lookup at_ with
  | some o =>
    have same := kin at_ o lk
    rw [obj] at same
    cases same
    refine main (fun _ => none) (fun p u z => by cases z) (.inr ⟨_, us.toArray, _, lk, rfl, rfl, rfl, ?_, by simpa using vals⟩) fun p u z => ?_
    · rw [List.size_toArray, lens]
      exact short
    · have z : (none : Option HO) = some u := z
      cases z
  | none =>
    refine main (fun p => if p = at_ then some (.frz { cls := .type "list", data := .seq us.toArray } (.lst (is.map V.int))) else none) (fun p u z => ?_) (.inl (.inr ⟨_, if_pos rfl⟩)) (fun p u z => ?_)
    · by_cases y : p = at_
      · have z2 := (if_pos y).symm.trans z
        cases z2
        exact ⟨y, lk, _, _, rfl⟩
      · have z2 := (if_neg y).symm.trans z
        cases z2
    · by_cases y : p = at_
      · have z2 := (if_pos y).symm.trans z
        cases z2
        subst y
        exact ⟨obj, by rw [List.length_map]; exact short, us, _, vals, obj⟩
      · have z2 := (if_neg y).symm.trans z
        cases z2
end K9
open PySem PySem.W PySem.Calls PyProof.Rows
theorem PySem.Challenge.cw_boxlaws_k09_whole_texts_there_and_back_holds : PySem.Challenge.rw_boxlaws_k09_whole_texts_there_and_back.Holds := by
  w_on; o_law
  refine HandSHeadRun.head_any (r := K9.RR) (q := view K9.RR.prog [54]) (H := K9.hkL) (ob := K9.obL) (M := 4000) (loose := K9.nmL) (d := HandSHeadRun.topDef K9.RR.prog 54) (kwd := []) K9.obL_eq
    (by kernel_rfl) (fun s => by kernel_rfl) K9.runL (by kernel_rfl) (by kernel_rfl) (by kernel_rfl) (by rfl) (by first | assumption | decide +kernel) (by decide +kernel) ⟨rfl, rfl, rfl, rfl, rfl, by decide +kernel⟩ ?hw ?hc
  case hw => w_witness2
  case hc =>
    refine Att.attach_call (n := 63) rfl (by kernel_rfl) fun w s0 st mg mb fa o pm cd doc a us is Gr Y ho hd hcd hmg0 obj are len nogen => ?_
    obtain ⟨K, KX, c⟩ := Y
    have hmg : mg ("law" : PySem.Str) = some (.ref fa) := by
      have e : (HandSHeadRun.topDef K9.RR.prog 54).name = ("law" : PySem.Str) := by kernel_rfl
      rw [← e]
      exact hmg0
    exact K9.asked (k := 60) (sp := K9.spLaw K) KX Gr.T.g Gr.T.b Gr.T.builtins Gr.T.nolimit nogen obj are (Nat.le_trans len (by decide)) ⟨rfl, by decide, by decide⟩ rfl (fun base _ _ => K9.all_of KX Gr.T.g c) hmg
      (fun Hq hs => ⟨a, is, rfl, hs, fun _ => rfl⟩)

